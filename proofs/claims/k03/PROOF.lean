import PyProof.Rows.All
import Wide.All
import OpenK.AllK
import Wide.FinOn
import HandS.ForMost
import HandS.Defaults
import HandS.Walk
import HandS.TupAny
import HandS.IsInst
import HandS.Flow
import HandS.Zip
import HandS.Deep
import HandS.TupMul
import HandS.Style
import HandS.RaiseMore
import HandS.DictComp
import PyProof.Rows.IntBool
import KE.KDictKeyed
import KE.KDictWalk
import KE.SortData
import KE.KDictSum
import KE.GoesMore
import KE.KDictDisplayH
import HandS.DictTup
import HandS.Keys
import HandS.Set
import HandS.SetFor
import KE.KStateDown
import HandS.More
import HandS.Head0
import HandS.Head1
import HandS.Head2
import HandS.HeadEnd
import HandS.HeadHook1
import HandS.HeadHook2
import PySem.Challenge.RW_wayback_k03_views_of_records
set_option Elab.async false
set_option linter.all false
set_option maxRecDepth 100000
set_option maxHeartbeats 4000000
/-! The data layer, part 1: values as data, what represents them, how memory may grow. -/
namespace DL
open PySem PySem.Spec PyProof.Rows L2

abbrev D := PyData
abbrev Frg := PySem.W.Frag

/-- the exact object at a -/
abbrev exo (a : Addr) (o : Obj) : HO := .ext fun h => h.get? a = some o

/-- hash of a key (leaf or tuple), as the dicts carry it -/
def nkey : D → Option NestedKey
  | .none => some .none
  | .bool b => some (.num (if b then 1 else 0))
  | .int i => some (.num i)
  | .str x => some (.text x)
  | .tuple ds => (nkeys ds).map .tup
  | .list _ => none
  | .dict _ => none
where nkeys : List D → Option (List NestedKey)
  | [] => some []
  | d :: ds => match nkey d, nkeys ds with
    | some k, some ks => some (k :: ks)
    | _, _ => none

/-- the entries of a dict's object: keys ks (as data kd), values vs -/
inductive Ents (w : World) : List DictEntry → List V → List D → List V → Prop
  | nil : Ents w [] [] [] []
  | cons {e : DictEntry} {es : List DictEntry} {k v : V} {d : D} {ks vs : List V} {ds : List D} {nk : NestedKey} :
      RelV k e.key → RelV v e.val → nkey d = some nk → nk.depth ≤ 8 → e.hash = nk.hash w → Ents w es ks ds vs → Ents w (e :: es) (k :: ks) (d :: ds) (v :: vs)
/-- all keys are texts; all are tuples -/
def KindS (kd : List D) : Prop := ∀ d ∈ kd, ∃ x, d = .str x
def KindT (kd : List D) : Prop := ∀ d ∈ kd, ∃ ds, d = .tuple ds
/-- the dict's object o holds these -/
def DctO (w : World) (a : Addr) (o : Obj) (ks : List V) (kd : List D) (vs : List V) : Prop :=
  o.ExactDict ∧ (a == sysModules) = false ∧ kd.length ≤ sizeLine ∧ (kd.map nkey).Nodup ∧ (KindS kd ∨ KindT kd) ∧ ∃ es ep, o.data = .dict es ep ∧ Ents w es.toList ks kd vs

/-- a tuple without a dict of its own, known to the object or written at the top -/
def StT (K : Frg) (F : Hp) (a : Addr) (xs : List V) : Prop :=
  (∃ o, F a = some (.frz o (.tup xs)) ∧ o.dict = none) ∨ ∃ (o : Obj) (its : Array Value) (n : Nat), K.lookup a = some o ∧ o.cls = .type "tuple" ∧ o.dict = none ∧ o.data = .seq its n ∧ its.size ≤ sizeLine ∧ Vals xs its.toList
theorem StT.sq {K : Frg} {F : Hp} {a : Addr} {xs : List V} (h : StT K F a xs) : SqT K F a xs := by
  rcases h with ⟨o, e, _⟩ | ⟨o, its, n, h1, h2, _, h3⟩
  · exact .inl (.inr ⟨o, e⟩)
  · exact .inr ⟨o, its, n, h1, h2, h3⟩
section
variable (K : Frg)
mutual
/-- in what is frozen in F (or written at the top) the value v reads as the data d -/
inductive Rp (F : Hp) : V → D → Prop
  | non : Rp F .non .none
  | bl (b : Bool) : Rp F (.bl b) (.bool b)
  | int (i : Int) : Rp F (.int i) (.int i)
  | str {x : Str} : PyData.strOk x = true → x.length ≤ sizeLine → Rp F (.str x) (.str x)
  | lst {a : Addr} {xs : List V} {ds : List D} : F a = some (.lst xs) → xs.length ≤ sizeLine → Rps F xs ds → Rp F (.ref a) (.list ds)
  | tup {a : Addr} {xs : List V} {ds : List D} : StT K F a xs → xs.length ≤ sizeLine → Rps F xs ds → Rp F (.ref a) (.tuple ds)
inductive Rps (F : Hp) : List V → List D → Prop
  | nil : Rps F [] []
  | cons {v : V} {vs : List V} {d : D} {ds : List D} : Rp F v d → Rps F vs ds → Rps F (v :: vs) (d :: ds)
end
end

/-- all of F is in G -/
def Sub (F G : Hp) : Prop := ∀ a o, F a = some o → G a = some o
theorem Sub.refl (F : Hp) : Sub F F := fun _ _ e => e
theorem Sub.trans {F G H : Hp} (x : Sub F G) (y : Sub G H) : Sub F H := fun a o e => y a o (x a o e)
theorem Rd.sub {F G : Hp} {a : Addr} {u : HO} (s : Sub F G) (r : L2.Rd F a u) : L2.Rd G a u := r.elim (fun e => .inl (s _ _ e)) fun ⟨o, e⟩ => .inr ⟨o, s _ _ e⟩
theorem SqL.sub {K : Frg} {F G : Hp} {a : Addr} {xs : List V} (s : Sub F G) (h : SqL K F a xs) : SqL K G a xs := h.elim (fun r => .inl (Rd.sub s r)) .inr
theorem StT.sub {K : Frg} {F G : Hp} {a : Addr} {xs : List V} (s : Sub F G) (h : StT K F a xs) : StT K G a xs := h.elim (fun ⟨o, e, d⟩ => .inl ⟨o, s _ _ e, d⟩) .inr
theorem SqT.sub {K : Frg} {F G : Hp} {a : Addr} {xs : List V} (s : Sub F G) (h : SqT K F a xs) : SqT K G a xs := h.elim (fun r => .inl (Rd.sub s r)) .inr

section
variable {K : Frg}
mutual
theorem Rp.sub {F G : Hp} (s : Sub F G) : ∀ {v : V} {d : D}, Rp K F v d → Rp K G v d
  | _, _, .non => .non
  | _, _, .bl b => .bl b
  | _, _, .int i => .int i
  | _, _, .str x z => .str x z
  | _, _, .lst h z r => .lst (s _ _ h) z (Rps.sub s r)
  | _, _, .tup h z r => .tup (StT.sub s h) z (Rps.sub s r)
theorem Rps.sub {F G : Hp} (s : Sub F G) : ∀ {vs : List V} {ds : List D}, Rps K F vs ds → Rps K G vs ds
  | _, _, .nil => .nil
  | _, _, .cons h r => .cons (Rp.sub s h) (Rps.sub s r)
end
theorem Rps.length {F : Hp} : ∀ {vs : List V} {ds : List D}, Rps K F vs ds → vs.length = ds.length
  | _, _, .nil => rfl
  | _, _, .cons _ r => by rw [List.length_cons, List.length_cons, Rps.length r]
theorem Rps.append {F : Hp} : ∀ {vs us : List V} {ds es : List D}, Rps K F vs ds → Rps K F us es → Rps K F (vs ++ us) (ds ++ es)
  | _, _, _, _, .nil, h => h
  | _, _, _, _, .cons h r, q => .cons h (Rps.append r q)
theorem Rps.get {F : Hp} : ∀ {vs : List V} {ds : List D} {i : Nat} {d : D}, Rps K F vs ds → ds[i]? = some d → ∃ v, vs[i]? = some v ∧ Rp K F v d
  | _, _, _, _, .nil, e => by simp at e
  | _, _, 0, _, .cons h _, e => by simp at e; subst e; exact ⟨_, rfl, h⟩
  | _, _, i + 1, d, .cons _ r, e => by
    obtain ⟨v, h1, h2⟩ := Rps.get (i := i) (d := d) r (by simpa using e)
    exact ⟨v, by simpa using h1, h2⟩
theorem Rps.get' {F : Hp} {vs : List V} {ds : List D} {i : Nat} {v : V} (r : Rps K F vs ds) (e : vs[i]? = some v) : ∃ d, ds[i]? = some d ∧ Rp K F v d := by
  have hl : i < ds.length := by rw [← r.length]; exact (List.getElem?_eq_some_iff.mp e).1
  obtain ⟨v', h1, h2⟩ := r.get (List.getElem?_eq_getElem hl)
  rw [e] at h1; cases h1
  exact ⟨_, List.getElem?_eq_getElem hl, h2⟩
theorem Rps.set {F : Hp} {v : V} {d : D} (h : Rp K F v d) : ∀ {vs : List V} {ds : List D} (i : Nat), Rps K F vs ds → Rps K F (vs.set i v) (ds.set i d)
  | _, _, _, .nil => .nil
  | _, _, 0, .cons _ r => .cons h r
  | _, _, i + 1, .cons q r => .cons q (Rps.set h i r)
theorem Rps.take {F : Hp} : ∀ {vs : List V} {ds : List D} (n : Nat), Rps K F vs ds → Rps K F (vs.take n) (ds.take n)
  | _, _, 0, _ => .nil
  | _, _, _ + 1, .nil => .nil
  | _, _, n + 1, .cons h r => .cons h (Rps.take n r)
theorem Rps.drop {F : Hp} : ∀ {vs : List V} {ds : List D} (n : Nat), Rps K F vs ds → Rps K F (vs.drop n) (ds.drop n)
  | _, _, 0, r => r
  | _, _, _ + 1, .nil => .nil
  | _, _, n + 1, .cons _ r => Rps.drop n r
theorem Rps.reverse {F : Hp} : ∀ {vs : List V} {ds : List D}, Rps K F vs ds → Rps K F vs.reverse ds.reverse
  | _, _, .nil => .nil
  | _, _, .cons h r => by
    rw [List.reverse_cons, List.reverse_cons]
    exact Rps.append (Rps.reverse r) (.cons h .nil)
end

/-- how memory may grow: F is frozen, M are the reference cells, H is tracked -/
structure Xt (F : Hp) (M : List Addr) (H : Hp) (F' : Hp) (M' : List Addr) (H' : Hp) : Prop where
  keep : ∀ a o, a ∉ M → H a = some o → H' a = some o
  there : ∀ a, H a ≠ none → H' a ≠ none
  frz : Sub F F'
  sub : Sub F' H'
  own : ∀ a, F a = none → H a ≠ none → F' a = none
  cel : ∃ m, M' = M ++ m ∧ ∀ a ∈ m, H a = none
theorem Xt.refl {F : Hp} {M : List Addr} {H : Hp} (s : Sub F H) : Xt F M H F M H := ⟨fun _ _ _ e => e, fun _ e => e, Sub.refl F, s, fun _ e _ => e, [], by simp, fun _ h => absurd h (by simp)⟩
theorem Xt.trans {F F1 F2 H H1 H2 : Hp} {M M1 M2 : List Addr} (x : Xt F M H F1 M1 H1) (y : Xt F1 M1 H1 F2 M2 H2) : Xt F M H F2 M2 H2 := by
  obtain ⟨m1, e1, n1⟩ := x.cel
  obtain ⟨m2, e2, n2⟩ := y.cel
  refine ⟨fun a o hm e => y.keep a o (fun z => ?_) (x.keep a o hm e), fun a e => y.there a (x.there a e), x.frz.trans y.frz, y.sub, fun a e h => y.own a (x.own a e h) (x.there a h), m1 ++ m2, by rw [e2, e1, List.append_assoc], fun a ha => ?_⟩
  · rw [e1] at z
    rcases List.mem_append.mp z with z | z
    · exact hm z
    · rw [n1 a z] at e; cases e
  · rcases List.mem_append.mp ha with z | z
    · exact n1 a z
    · have q := n2 a z
      cases hq : H a with
      | none => rfl
      | some o => exact absurd q (x.there a (by rw [hq]; exact fun z => nomatch z))
theorem Xt.mem {F H F' H' : Hp} {M M' : List Addr} (x : Xt F M H F' M' H') {a : Addr} (h : a ∈ M') (e : H a ≠ none) : a ∈ M := by
  obtain ⟨m, em, n⟩ := x.cel
  rw [em] at h
  rcases List.mem_append.mp h with z | z
  · exact z
  · exact absurd (n a z) e
theorem Xt.get {F H F' H' : Hp} {M M' : List Addr} (x : Xt F M H F' M' H') {r : Nat} {a : Addr} (h : M[r]? = some a) : M'[r]? = some a := by
  obtain ⟨m, em, _⟩ := x.cel
  rw [em, List.getElem?_append_left (List.getElem?_eq_some_iff.mp h).1]
  exact h
/-- a new tracked object -/
theorem Xt.new {F H : Hp} {M : List Addr} (s : Sub F H) {p : Addr} {o : HO} (hp : H p = none) : Xt F M H F M (upd H p o) :=
  ⟨fun a u _ e => by rw [upd_ne (ne_of_none e hp)]; exact e, fun a e => by
      by_cases h : a = p
      · subst h; rw [upd_same]; exact fun z => nomatch z
      · rw [upd_ne h]; exact e,
    Sub.refl F, fun a u e => by rw [upd_ne (ne_of_none (s a u e) hp)]; exact s a u e, fun a e _ => e, [], by simp, fun _ h => absurd h (by simp)⟩
/-- it is frozen at once -/
theorem Xt.newF {F H : Hp} {M : List Addr} (s : Sub F H) {p : Addr} {o : HO} (hp : H p = none) : Xt F M H (upd F p o) M (upd H p o) := by
  have fp : F p = none := by
    cases q : F p with
    | none => rfl
    | some u => rw [s p u q] at hp; cases hp
  refine ⟨(Xt.new (M := M) s hp).keep, (Xt.new (M := M) s hp).there, fun a u e => ?_, fun a u e => ?_, fun a e h => ?_, [], by simp, fun _ h => absurd h (by simp)⟩
  · rw [upd_ne (fun z => by subst z; rw [fp] at e; cases e)]; exact e
  · by_cases h : a = p
    · subst h; rw [upd_same] at e; rw [upd_same]; exact e
    · rw [upd_ne h] at e; rw [upd_ne h]; exact s a u e
  · rw [upd_ne (fun z => by subst z; exact h hp)]; exact e
/-- what is tracked but frozen nowhere is frozen -/
theorem Sub.put {F H : Hp} {a : Addr} {o : HO} (s : Sub F H) (e : H a = some o) : Sub (upd F a o) H := fun b u q => by
  by_cases h : b = a
  · subst h; rw [upd_same] at q; cases q; exact e
  · rw [upd_ne h] at q; exact s b u q

/-- an owned object -/
inductive OV where
  | lst (ds : List D)
  | dct (kvs : List (D × D))
/-- what a slot holds: data, a reference cell, a dict that nobody writes, a pair of such, an owned object -/
inductive SV where
  | val (d : D)
  | cell (r : Nat)
  | dct (kvs : List (D × D))
  | pk (a b : SV)
  | scr (ns : List Int)
  | own (o : OV)
/-- what an expression gives: what may be held, a new object, an object that a slot owns -/
inductive RV where
  | sv (s : SV)
  | new (o : OV)
  | bor (o : OV)
abbrev Slots := List (Option SV)
abbrev Store := List (List D)

section
variable (w : World) (K : Frg)
/-- a dict at a (tracked in H), its keys and values frozen in F -/
def DctAt (F H : Hp) (a : Addr) (kvs : List (D × D)) : Prop := ∃ o ks vs, H a = some (exo a o) ∧ DctO w a o ks (kvs.map (·.1)) vs ∧ Rps K F ks (kvs.map (·.1)) ∧ Rps K F vs (kvs.map (·.2))
/-- the object at a holds o; what is in it is frozen -/
def OvAt (F H : Hp) (a : Addr) : OV → Prop
  | .lst ds => ∃ vs, H a = some (.lst vs) ∧ vs.length ≤ sizeLine ∧ Rps K F vs ds
  | .dct kvs => DctAt w K F H a kvs
/-- an object that nobody else knows -/
def OwnAt (F : Hp) (M : List Addr) (H : Hp) (a : Addr) (o : OV) : Prop := F a = none ∧ a ∉ M ∧ OvAt w K F H a o
def CelAt (F H : Hp) (a : Addr) (ds : List D) : Prop := F a = none ∧ ∃ vs, H a = some (.lst vs) ∧ vs.length ≤ sizeLine ∧ Rps K F vs ds
/-- the reference cells -/
structure Cls (F : Hp) (M : List Addr) (H : Hp) (S : Store) : Prop where
  nd : M.Nodup
  at_ : Paired (CelAt K F H) M S
/-- it may be held in more than one place -/
def SV.free : SV → Bool
  | .val _ => true
  | .cell _ => true
  | .dct _ => true
  | .pk a b => a.free && b.free
  | .scr _ => true
  | .own _ => false
/-- a slot's value -/
def RSV (H0 F : Hp) (M : List Addr) (H : Hp) : V → SV → Prop
  | v, .val d => Rp K F v d
  | v, .cell r => ∃ a, v = .ref a ∧ M[r]? = some a
  | v, .dct kvs => ∃ a, v = .ref a ∧ DctAt w K F F a kvs
  | v, .pk a b => ∃ p x y, v = .ref p ∧ SqT K F p [x, y] ∧ RSV H0 F M H x a ∧ RSV H0 F M H y b
  | v, .scr ns => ∃ a, v = .ref a ∧ ns.length ≤ sizeLine ∧ SqL K F a (ns.map V.int)
  | v, .own o => ∃ a, v = .ref a ∧ H0 a = none ∧ OwnAt w K F M H a o
/-- the state of a def's frame: F0 M0 H0 at its entry -/
structure Stt (F0 : Hp) (M0 : List Addr) (H0 : Hp) (F : Hp) (M : List Addr) (S : Store) (sl : Slots) (σ : L2.St) (H : Hp) : Prop where
  base : Xt F0 M0 H0 F M H
  len : sl.length = σ.length
  cls : Cls K F M H S
  slots : ∀ (i : Nat) sv, sl[i]? = some (some sv) → ∃ v, σ[i]? = some (some v) ∧ RSV w K H0 F M H v sv
  inj : ∀ (i j : Nat) oi oj v, sl[i]? = some (some (.own oi)) → sl[j]? = some (some (.own oj)) → σ[i]? = some (some v) → σ[j]? = some (some v) → i = j
  fr : ∀ (i : Nat) sv, sl[i]? = some (some sv) → sv.free = true ∨ ∃ o, sv = .own o
/-- an expression's value -/
def RRV (H0 F : Hp) (M : List Addr) (H : Hp) (v : V) : RV → Prop
  | .sv s => s.free = true ∧ RSV w K H0 F M H v s
  | .new o => ∃ a, v = .ref a ∧ H0 a = none ∧ OwnAt w K F M H a o
  | .bor o => ∃ a, v = .ref a ∧ OwnAt w K F M H a o
end

section
variable {w : World} {K : Frg} {F0 H0 F H F' H' : Hp} {M0 M M' : List Addr} {S S' : Store} {sl : Slots} {σ : L2.St}
theorem DctAt.frz {a : Addr} {kvs : List (D × D)} (s : Sub F F') (t : Sub H H') (h : DctAt w K F H a kvs) : DctAt w K F' H' a kvs := by
  obtain ⟨o, ks, vs, e, d, r, q⟩ := h
  exact ⟨o, ks, vs, t _ _ e, d, Rps.sub s r, Rps.sub s q⟩
/-- a new object stood nowhere in H -/
def NewIn (H : Hp) (v : V) : RV → Prop
  | .new _ => ∀ a, v = .ref a → H a = none
  | _ => True
theorem newIn {p : Addr} {o : OV} (h : H p = none) : NewIn H (.ref p) (.new o) := fun a e => by cases e; exact h
theorem NewIn.sv {v : V} {s : SV} : NewIn H v (.sv s) := trivial
theorem NewIn.xt {v : V} {r : RV} (x : Xt F M H F' M' H') (n : NewIn H' v r) : NewIn H v r := by
  cases r with
  | new o =>
    intro a e
    cases q : H a with
    | none => rfl
    | some u => exact absurd (n a e) (x.there a (by rw [q]; exact fun z => nomatch z))
  | sv s => trivial
  | bor o => trivial
theorem OvAt.xt {a : Addr} {o : OV} (x : Xt F M H F' M' H') (hm : a ∉ M) (h : OvAt w K F H a o) : OvAt w K F' H' a o := by
  cases o with
  | lst ds => obtain ⟨vs, e, z, r⟩ := h; exact ⟨vs, x.keep _ _ hm e, z, Rps.sub x.frz r⟩
  | dct kvs =>
    obtain ⟨o, ks, vs, e, d, r, q⟩ := h
    exact ⟨o, ks, vs, x.keep _ _ hm e, d, Rps.sub x.frz r, Rps.sub x.frz q⟩
theorem OvAt.some {a : Addr} {o : OV} (h : OvAt w K F H a o) : H a ≠ none := by
  cases o with
  | lst ds => obtain ⟨vs, e, r⟩ := h; rw [e]; exact fun z => nomatch z
  | dct kvs =>
    obtain ⟨o, ks, vs, e, d, r, q⟩ := h
    rw [e]; exact fun z => nomatch z
theorem OwnAt.xt {a : Addr} {o : OV} (x : Xt F M H F' M' H') (h : OwnAt w K F M H a o) : OwnAt w K F' M' H' a o :=
  ⟨x.own a h.1 h.2.2.some, fun z => h.2.1 (x.mem z h.2.2.some), h.2.2.xt x h.2.1⟩
theorem RSV.xt (x : Xt F M H F' M' H') : ∀ {sv : SV} {v : V}, RSV w K H0 F M H v sv → RSV w K H0 F' M' H' v sv
  | .val d, _, h => by unfold RSV at h ⊢; exact Rp.sub x.frz h
  | .cell r, _, h => by unfold RSV at h ⊢; obtain ⟨a, e, q⟩ := h; exact ⟨a, e, x.get q⟩
  | .dct kvs, _, h => by unfold RSV at h ⊢; obtain ⟨a, e, q⟩ := h; exact ⟨a, e, q.frz x.frz x.frz⟩
  | .pk a b, _, h => by
    unfold RSV at h ⊢
    obtain ⟨p, u, v, e, q, h1, h2⟩ := h
    exact ⟨p, u, v, e, SqT.sub x.frz q, RSV.xt x h1, RSV.xt x h2⟩
  | .scr ns, _, h => by unfold RSV at h ⊢; obtain ⟨a, e, z, q⟩ := h; exact ⟨a, e, z, SqL.sub x.frz q⟩
  | .own o, _, h => by unfold RSV at h ⊢; obtain ⟨a, e, n, q⟩ := h; exact ⟨a, e, n, q.xt x⟩
theorem RRV.xt {v : V} {rv : RV} (x : Xt F M H F' M' H') (h : RRV w K H0 F M H v rv) : RRV w K H0 F' M' H' v rv := by
  cases rv with
  | sv s => exact ⟨h.1, h.2.xt x⟩
  | new o => obtain ⟨a, e, n, q⟩ := h; exact ⟨a, e, n, q.xt x⟩
  | bor o => obtain ⟨a, e, q⟩ := h; exact ⟨a, e, q.xt x⟩
theorem Stt.xt (h : Stt w K F0 M0 H0 F M S sl σ H) (x : Xt F M H F' M' H') (c : Cls K F' M' H' S') : Stt w K F0 M0 H0 F' M' S' sl σ H' :=
  ⟨h.base.trans x, h.len, c, fun i sv e => let ⟨v, q, r⟩ := h.slots i sv e; ⟨v, q, r.xt x⟩, h.inj, h.fr⟩
theorem Stt.sub (h : Stt w K F0 M0 H0 F M S sl σ H) : Sub F H := h.base.sub
theorem Cls.get {r : Nat} {ds : List D} (c : Cls K F M H S) (e : S[r]? = some ds) : ∃ a, M[r]? = some a ∧ CelAt K F H a ds := by
  have : ∀ {M : List Addr} {S : Store} {r : Nat}, Paired (CelAt K F H) M S → S[r]? = some ds → ∃ a, M[r]? = some a ∧ CelAt K F H a ds := by
    intro M S r p
    induction p generalizing r with
    | nil => intro e; simp at e
    | cons h t ih =>
      intro e
      cases r with
      | zero => simp at e; subst e; exact ⟨_, rfl, h⟩
      | succ r => obtain ⟨a, h1, h2⟩ := ih (r := r) (by simpa using e); exact ⟨a, by simpa using h1, h2⟩
  exact this c.at_ e
theorem Cls.len (c : Cls K F M H S) : M.length = S.length := c.at_.length
theorem CelAt.tr {a : Addr} {ds : List D} (h : CelAt K F H a ds) : H a ≠ none := by
  obtain ⟨_, vs, e, _⟩ := h; rw [e]; exact fun z => nomatch z
/-- the cells where none of them is written -/
theorem Cls.mono (c : Cls K F M H S) (fr : Sub F F') (ow : ∀ a ∈ M, F' a = none) (kp : ∀ a ∈ M, H' a = H a) : Cls K F' M H' S := by
  refine ⟨c.nd, ?_⟩
  have : ∀ {N : List Addr} {T : Store}, Paired (CelAt K F H) N T → (∀ a ∈ N, a ∈ M) → Paired (CelAt K F' H') N T := by
    intro N T p
    induction p with
    | nil => intro _; exact .nil
    | cons h t ih =>
      intro hm
      obtain ⟨f, vs, e, z, r⟩ := h
      have hM := hm _ List.mem_cons_self
      exact .cons ⟨ow _ hM, vs, (kp _ hM).trans e, z, Rps.sub fr r⟩ (ih fun a ha => hm a (List.mem_cons_of_mem _ ha))
  exact this c.at_ fun _ h => h
theorem Cls.mem_some (c : Cls K F M H S) {a : Addr} (h : a ∈ M) : F a = none ∧ H a ≠ none := by
  have : ∀ {N : List Addr} {T : Store}, Paired (CelAt K F H) N T → a ∈ N → F a = none ∧ H a ≠ none := by
    intro N T p
    induction p with
    | nil => intro h; exact absurd h (by simp)
    | cons h t ih =>
      intro hm
      rcases List.mem_cons.mp hm with rfl | hm
      · exact ⟨h.1, h.tr⟩
      · exact ih hm
  exact this c.at_ h
/-- no cell is written, none is made -/
theorem Cls.xt (c : Cls K F M H S) (x : Xt F M H F' M H') (kp : ∀ a ∈ M, H' a = H a) : Cls K F' M H' S :=
  c.mono x.frz (fun a h => x.own a (c.mem_some h).1 (c.mem_some h).2) kp
theorem Cls.new (c : Cls K F M H S) (s : Sub F H) {p : Addr} {o : HO} (hp : H p = none) : Cls K F M (upd H p o) S :=
  c.xt (Xt.new s hp) fun a h => upd_ne fun e => (c.mem_some h).2 (e ▸ hp)
theorem Cls.newF (c : Cls K F M H S) (s : Sub F H) {p : Addr} {o : HO} (hp : H p = none) : Cls K (upd F p o) M (upd H p o) S :=
  c.xt (Xt.newF s hp) fun a h => upd_ne fun e => (c.mem_some h).2 (e ▸ hp)
/-- an owned object is frozen: by what it is -/
def OV.fz : OV → SV
  | .lst ds => .val (.list ds)
  | .dct kvs => .dct kvs
/-- a free value speaks of what is frozen alone -/
theorem RSV.free {H1 H0' : Hp} : ∀ {sv : SV} {v : V}, sv.free = true → RSV w K H0 F M H v sv → RSV w K H0' F M H1 v sv
  | .val d, _, _, h => by unfold RSV at h ⊢; exact h
  | .cell r, _, _, h => by unfold RSV at h ⊢; exact h
  | .dct kvs, _, _, h => by unfold RSV at h ⊢; exact h
  | .pk a b, _, f, h => by
    unfold RSV at h ⊢
    have f : (a.free && b.free) = true := f
    rw [Bool.and_eq_true] at f
    obtain ⟨p, u, v, e, q, h1, h2⟩ := h
    exact ⟨p, u, v, e, q, RSV.free f.1 h1, RSV.free f.2 h2⟩
  | .scr ns, _, _, h => by unfold RSV at h ⊢; exact h
  | .own o, _, f, _ => by cases f
theorem OV.fz_free (o : OV) : o.fz.free = true := by cases o <;> rfl
end
end DL

/-! The data layer, part 2: the language (what the generator prints) and what it computes, in plain Lean. -/
namespace DL
open PySem L2

/-- binary operators, comparisons, built-ins with values -/
inductive BOp where | add | sub | mul | fdiv | mod | pow
  deriving DecidableEq
inductive COp where | eq | ne | lt | le | gt | ge | isN | notN | isin | notin | isB | notB
  deriving DecidableEq
inductive Ty where | int | str | tuple | list | bool
  deriving DecidableEq
/-- built-in functions of one or two values -/
inductive Bi where | len | tuple | list | all | any | int | str | sum | max2 | min2 | sorted | dict
  deriving DecidableEq
inductive Me where | upper | join | split
  deriving DecidableEq
inductive Tg where
  | nm (i : Nat)
  | tp (is : List Nat)
  | tq (i : Nat) (is : List Nat)       -- x, (y, z)

mutual
inductive Ex where
  | var (i : Nat)
  | glob (g : Nat)
  | non | bl (b : Bool) | int (i : Int) | str (x : Str)
  | tup (es : Exs) | lst (es : Exs) | cel (es : Exs)
  | dnew | dset (k v : Ex)                      -- {}, {k: v}
  | get2 (o a b : Ex) | sset (a : Ex) | lset (a : Ex) | min1 (a : Ex) | sitm (a : Ex)   -- o.get(a, b), sorted(set(a)), len(set(a)), min(a), sorted(a.items())
  | bop (o : BOp) (a b : Ex)
  | cop (o : COp) (a b : Ex)
  | chn (o p : COp) (a b c : Ex)
  | neg (a : Ex)
  | and (a b : Ex) | or (a b : Ex) | not (a : Ex)
  | ite (t a b : Ex)
  | sub (a i : Ex)
  | slc (a : Ex) (lo hi : Exo)
  | rev (a : Ex)                                -- a[::-1]
  | call (f : Nat) (es : Exs)
  | isi (a : Ex) (t : Ty)
  | bi (b : Bi) (es : Exs)
  | me (m : Me) (o : Ex) (es : Exs)
  | lc (elt : Ex) (tg : Tg) (it : Itr) (cd : Exo) (own : List Nat)
  | lc2 (elt : Ex) (tg : Tg) (it : Itr) (cd : Exo) (tg1 : Tg) (it1 : Itr) (cd1 : Exo) (own own1 : List Nat)
  | dc (k v : Ex) (tg : Tg) (it : Itr) (cd : Exo) (own : List Nat)
inductive Exs where
  | nil
  | cons (e : Ex) (r : Exs)
inductive Exo where
  | no
  | yes (e : Ex)
inductive Itr where
  | seq (e : Ex)
  | rng (e : Ex) | rng2 (a b : Ex)
  | zip (a b : Ex)
  | enm (a : Ex)
end
mutual
inductive Sm where
  | asg (tg : Tg) (e : Ex)
  | par (is : List Nat) (es : Exs)
  | put (i : Nat) (k e : Ex)                    -- x[k] = e
  | app (i : Nat) (e : Ex)                      -- x.append(e)
  | pop (j i : Nat)                             -- x = y.pop()
  | upd (i : Nat) (e : Ex)                      -- x.update(e)
  | ret (e : Ex) | retN
  | ife (t : Ex) (a b : Sms)
  | forr (tg : Tg) (it : Itr) (b : Sms)
  | whl (t : Ex) (b : Sms)
  | expr (e : Ex)
  | pass | brk | cnt | never
  | frz (i : Nat)                               -- no Python: the owned object of slot i is frozen
inductive Sms where
  | nil
  | cons (s : Sm) (r : Sms)
end

/-! ### data -/
abbrev dIs (a b : D) : Bool := PyData.eqv a b
def toL : RV → Option (List D)
  | .sv (.val (.list ds)) => some ds
  | .new (.lst ds) => some ds
  | .bor (.lst ds) => some ds
  | _ => none
def toSeq : RV → Option (List D)
  | .sv (.val (.list ds)) => some ds
  | .sv (.val (.tuple ds)) => some ds
  | .sv (.scr ns) => some (ns.map .int)
  | .new (.lst ds) => some ds
  | .bor (.lst ds) => some ds
  | _ => none
/-- as data, for a look -/
def toD : RV → Option D
  | .sv (.val d) => some d
  | .new (.lst ds) => some (.list ds)
  | .bor (.lst ds) => some (.list ds)
  | _ => none
def toK : RV → Option (List (D × D))
  | .sv (.dct kvs) => some kvs
  | .new (.dct kvs) => some kvs
  | .bor (.dct kvs) => some kvs
  | _ => none
abbrev vD (d : D) : Option RV := some (.sv (.val d))
abbrev vB (b : Bool) : Option RV := some (.sv (.val (.bool b)))
abbrev vI (i : Int) : Option RV := some (.sv (.val (.int i)))
def szL : Nat := 16777216
def strD (c : Nat) : D := .str ⟨#[c]⟩

/-! ### dicts -/
def sameKind : D → D → Bool
  | .str _, .str _ => true
  | .tuple _, .tuple _ => true
  | _, _ => false
/-- the key may be looked up among these -/
def keyFits (kvs : List (D × D)) (k : D) : Bool :=
  (match kvs with
  | [] => sameKind k k
  | p :: _ => sameKind p.1 k) && (match nkey k with | some n => decide (n.depth ≤ 8) | none => false)
def dLook : List (D × D) → D → Option D
  | [], _ => none
  | p :: r, k => if dIs p.1 k then some p.2 else dLook r k
def dPut : List (D × D) → D → D → List (D × D)
  | [], k, v => [(k, v)]
  | p :: r, k, v => if dIs p.1 k then (p.1, v) :: r else p :: dPut r k v

/-! ### operators -/
def catL (a b : RV) : Option RV := match toL a, toL b with
  | some xs, some ys => if xs.length + ys.length ≤ szL then some (.new (.lst (xs ++ ys))) else none
  | _, _ => none
def addS : RV → RV → Option RV
  | .sv (.val (.int i)), .sv (.val (.int j)) => vI (i + j)
  | .sv (.val (.str x)), .sv (.val (.str y)) => if x.length + y.length ≤ szL then vD (.str (x ++ y)) else none
  | .sv (.val (.tuple xs)), .sv (.val (.tuple ys)) => if xs.length + ys.length ≤ szL then vD (.tuple (xs ++ ys)) else none
  | .sv (.val (.bool i)), .sv (.val (.int j)) => vI ((if i then 1 else 0) + j)
  | a, b => catL a b
def subtS : RV → RV → Option RV
  | .sv (.val (.int i)), .sv (.val (.int j)) => vI (i - j)
  | .sv (.val (.bool i)), .sv (.val (.int j)) => vI ((if i then 1 else 0) - j)
  | _, _ => none
def repL (a : RV) (k : Int) : Option RV := match toL a with
  | some xs => if 0 ≤ k ∧ k ≤ 1000 ∧ xs.length * k.toNat ≤ szL then some (.new (.lst (List.replicate k.toNat xs).flatten)) else none
  | none => none
def mulS : RV → RV → Option RV
  | .sv (.val (.int i)), .sv (.val (.int j)) => if (-(2 ^ 64) < i ∧ i < 2 ^ 64) ∨ (-(2 ^ 64) < j ∧ j < 2 ^ 64) then vI (i * j) else none
  | .sv (.val (.tuple xs)), .sv (.val (.int k)) => if xs.isEmpty then none else if 2 ≤ k ∧ k ≤ 1000 ∧ xs.length ≤ 1000 then vD (.tuple (List.replicate k.toNat xs).flatten) else none
  | a, .sv (.val (.int k)) => repL a k
  | _, _ => none
def divS : RV → RV → Option RV
  | .sv (.val (.int i)), .sv (.val (.int j)) => if 0 < j ∧ j < 1073741824 then vI (i / j) else none
  | _, _ => none
def modS : RV → RV → Option RV
  | .sv (.val (.int i)), .sv (.val (.int j)) => if 0 < j then vI (i % j) else none
  | _, _ => none
def powS : RV → RV → Option RV
  | .sv (.val (.int i)), .sv (.val (.int j)) => if 0 ≤ j ∧ j ≤ 1000000 ∧ i.natAbs < 2 ^ 64 then vI (i ^ j.toNat) else none
  | _, _ => none
def bopS : BOp → RV → RV → Option RV
  | .add => addS
  | .sub => subtS
  | .mul => mulS
  | .fdiv => divS
  | .mod => modS
  | .pow => powS
def ltS (a b : Str) : Bool := decide (a.cps.toList < b.cps.toList)
def leafKeys : List (D × D) → Bool
  | [] => true
  | (.str _, _) :: _ => true
  | _ :: _ => false
def eqS (a b : RV) : Option Bool := match toD a, toD b with
  | some x, some y => if min x.depth y.depth ≤ 64 then some (dIs x y) else none
  | _, _ => match toK a, toK b with
    | some xs, some [] => if leafKeys xs then some xs.isEmpty else none
    | _, _ => none
def inK (b : RV) (x : D) : Option Bool := match toK b with
  | some kvs => if keyFits kvs x then some (dLook kvs x).isSome else none
  | none => none
def inS : RV → RV → Option Bool
  | .sv (.val (.str x)), .sv (.val (.str z)) => if x.cps.size = 1 then some (decide (x.cps.getD 0 0 ∈ z.cps.toList)) else none
  | .sv (.val x), b => match toSeq b with
    | some ys => if x.depth ≤ 64 then some (ys.any fun z => dIs z x) else none
    | none => inK b x
  | _, _ => none
def ltS2 : RV → RV → Option Bool
  | .sv (.val (.int i)), .sv (.val (.int j)) => some (decide (i < j))
  | .sv (.val (.str i)), .sv (.val (.str j)) => some (ltS i j)
  | .sv (.val (.tuple i)), .sv (.val (.tuple j)) => if PySem.W.alikeAll i j ∧ PyData.depthAll i ≤ 60 ∧ PyData.depthAll j ≤ 60 then some (PySem.W.dataLt (.tuple i) (.tuple j)) else none
  | _, _ => none
def leS2 : RV → RV → Option Bool
  | .sv (.val (.int i)), .sv (.val (.int j)) => some (decide (i ≤ j))
  | .sv (.val (.str i)), .sv (.val (.str j)) => some (!ltS j i)
  | _, _ => none
def gtS2 : RV → RV → Option Bool
  | .sv (.val (.int i)), .sv (.val (.int j)) => some (decide (j < i))
  | .sv (.val (.str i)), .sv (.val (.str j)) => some (ltS j i)
  | _, _ => none
def geS2 : RV → RV → Option Bool
  | .sv (.val (.int i)), .sv (.val (.int j)) => some (decide (j ≤ i))
  | .sv (.val (.str i)), .sv (.val (.str j)) => some (!ltS i j)
  | _, _ => none
def isNon : RV → Bool
  | .sv (.val .none) => true
  | _ => false
def isNS (a b : RV) : Option Bool := if isNon b then some (isNon a) else none
def isBS : RV → RV → Option Bool
  | .sv (.val (.bool a)), .sv (.val (.bool b)) => some (a == b)
  | _, _ => none
def copS : COp → RV → RV → Option Bool
  | .eq, a, b => eqS a b
  | .ne, a, b => (eqS a b).map (!·)
  | .lt, a, b => ltS2 a b
  | .le, a, b => leS2 a b
  | .gt, a, b => gtS2 a b
  | .ge, a, b => geS2 a b
  | .isN, a, b => isNS a b
  | .notN, a, b => (isNS a b).map (!·)
  | .isB, a, b => isBS a b
  | .notB, a, b => (isBS a b).map (!·)
  | .isin, a, b => inS a b
  | .notin, a, b => (inS a b).map (!·)
def tyIs : Ty → D → Bool
  | .int, .int _ => true
  | .int, .bool _ => true
  | .bool, .bool _ => true
  | .str, .str _ => true
  | .tuple, .tuple _ => true
  | .list, .list _ => true
  | _, _ => false
def isiS (a : RV) (t : Ty) : Option Bool := match a with
  | .sv (.val d) => some (tyIs t d)
  | _ => none
/-- a subscript, the cells at hand -/
def subS (S : Store) (a i : RV) : Option RV := match a, i with
  | .sv (.cell r), .sv (.val (.int i)) => match S[r]? with
    | some ds => (atI ds i).map fun d => .sv (.val d)
    | none => none
  | .sv (.val (.str z)), .sv (.val (.int i)) => (atI z.cps.toList i).map fun c => .sv (.val (strD c))
  | a, .sv (.val k) => match toSeq a, k with
    | some ds, .int i => (atI ds i).map fun d => .sv (.val d)
    | some _, _ => none
    | none, k => match toK a with
      | some kvs => if keyFits kvs k then (dLook kvs k).map fun d => .sv (.val d) else none
      | none => none
  | _, _ => none
def cutD {α : Type} (xs : List α) (lo hi : Option Int) : List α := (xs.drop (HT.sIx xs.length 0 lo)).take (HT.sIx xs.length xs.length hi - HT.sIx xs.length 0 lo)
def slcS (a : RV) (lo hi : Option Int) : Option RV := match a with
  | .sv (.val (.tuple ds)) => vD (.tuple (cutD ds lo hi))
  | a => match toL a with
    | some ds => some (.new (.lst (cutD ds lo hi)))
    | none => none
def revS (a : RV) : Option RV := match a with
  | .sv (.val (.tuple ds)) => vD (.tuple ds.reverse)
  | a => match toL a with
    | some ds => some (.new (.lst ds.reverse))
    | none => none
def boolsD : List D → Option (List Bool)
  | [] => some []
  | .bool b :: r => (boolsD r).map (b :: ·)
  | _ :: _ => none
def intsD : List D → Option (List Int)
  | [] => some []
  | .int b :: r => (intsD r).map (b :: ·)
  | _ :: _ => none
def strsD : List D → Option (List Str)
  | [] => some []
  | .str b :: r => (strsD r).map (b :: ·)
  | _ :: _ => none
/-- the pairs of a list of pairs -/
def pairsD : List D → Option (List (D × D))
  | [] => some []
  | .tuple [k, v] :: r => (pairsD r).map ((k, v) :: ·)
  | _ :: _ => none
/-- all keys of one kind, all hashable -/
def oneKind (kvs : List (D × D)) : Bool := kvs.all fun p => keyFits kvs p.1
def strKeys (kvs : List (D × D)) : Bool := kvs.all fun p => match p.1 with
  | .str _ => true
  | _ => false
def dMerge (kvs : List (D × D)) : List (D × D) → List (D × D)
  | [] => kvs
  | p :: r => dMerge (dPut kvs p.1 p.2) r
/-- data that sort together: the library's own words -/
def sortOk (ds : List D) : Bool := (ds.all fun a => decide (a.depth ≤ 64) && ds.all fun b => PySem.W.alike a b) &&
  ((ds.all fun d => match d with | .tuple (_ :: _) => true | _ => false) || ds.all fun d => match d with | .none => false | .tuple _ => false | _ => true)
def sortD (ds : List D) : List D := ds.mergeSort (PySem.W.dataLe false id)
def uniqS : List Str → List Str
  | [] => []
  | x :: r => if x ∈ r then uniqS r else x :: uniqS r
def uniqI : List Int → List Int
  | [] => []
  | x :: r => if x ∈ r then uniqI r else x :: uniqI r
def lowS (x : Str) : Bool := x.cps.all fun c => decide (c < 128)
def upC (c : Nat) : Nat := if 97 ≤ c ∧ c ≤ 122 then c - 32 else c

def biS : Bi → List RV → Option RV
  | .len, [.sv (.val (.str x))] => vI x.length
  | .len, [a] => match toSeq a with
    | some ds => vI ds.length
    | none => match toK a with
      | some kvs => vI kvs.length
      | none => none
  | .tuple, [.sv (.val (.tuple ds))] => vD (.tuple ds)
  | .tuple, [a] => match toL a with
    | some ds => vD (.tuple ds)
    | none => none
  | .list, [a] => match toSeq a with
    | some ds => some (.new (.lst ds))
    | none => none
  | .all, [a] => match toL a with
    | some ds => match boolsD ds with
      | some bs => vB (bs.all id)
      | none => none
    | none => none
  | .any, [a] => match toL a with
    | some ds => match boolsD ds with
      | some bs => vB (bs.any id)
      | none => none
    | none => none
  | .int, [.sv (.val (.int i))] => vI i
  | .int, [.sv (.val (.bool b))] => vI (if b then 1 else 0)
  | .str, [.sv (.val (.int i))] => if i.natAbs.log2 < 1920 then vD (.str (toString i)) else none
  | .str, [.sv (.val (.str x))] => vD (.str x)
  | .sum, [a] => match toL a with
    | some ds => match intsD ds with
      | some is => vI is.sum
      | none => none
    | none => none
  | .max2, [.sv (.val (.int i)), .sv (.val (.int j))] => vI (if j > i then j else i)
  | .min2, [.sv (.val (.int i)), .sv (.val (.int j))] => vI (if j < i then j else i)
  | .sorted, [a] => match toL a with
    | some ds => if sortOk ds then some (.new (.lst (sortD ds))) else none
    | none => match toK a with
      | some kvs => if sortOk (kvs.map (·.1)) then some (.new (.lst (sortD (kvs.map (·.1))))) else none
      | none => none
  | .dict, [a] => match toSeq a with
    | some ds => match pairsD ds with
      | some kvs => if strKeys kvs then some (.new (.dct (dMerge [] kvs))) else none
      | none => none
    | none => none
  | _, _ => none
def meS : Me → RV → List RV → Option RV
  | .upper, .sv (.val (.str x)), [] => if lowS x ∧ x.length ≤ 5592405 then vD (.str ⟨x.cps.map upC⟩) else none
  | _, _, _ => none

/-- sorted(set(..)) of texts; min of whole numbers; sorted(d.items()) -/
def ssetS (r : RV) : Option RV := match toL r with
  | some ds => match strsD ds with
    | some xs => if xs.length ≤ 1000 then some (.new (.lst (sortD ((uniqS xs).map .str)))) else none
    | none => none
  | none => none
def lsetS (r : RV) : Option RV := match toSeq r with
  | some ds => match intsD ds with
    | some is => if is.length ≤ 60 then vI (uniqI is).length else none
    | none => none
  | none => none
def min1S (r : RV) : Option RV := match toL r with
  | some ds => match intsD ds with
    | some (i :: is) => vI (is.foldl (fun m x => if x < m then x else m) i)
    | _ => none
  | none => none
def pairT (p : D × D) : D := .tuple [p.1, p.2]
def sitmS (r : RV) : Option RV := match toK r with
  | some kvs => if sortOk (kvs.map pairT) then some (.new (.lst (sortD (kvs.map pairT)))) else none
  | none => none
def get2S (r : RV) (k d : D) : Option RV := match toK r with
  | some kvs => if keyFits kvs k then vD ((dLook kvs k).getD d) else none
  | none => none
/-! ### what a program does -/
abbrev CallF := Nat → List SV → Store → Option (SV × Store)
structure Ev where
  call : CallF
  cs : Nat → Option D
  n : Nat
def fzR : RV → Option SV
  | .sv s => some s
  | .new o => some o.fz
  | .bor _ => none
/-- without what is owned (within a double comprehension) -/
def noOwn (sl : Slots) : Slots := sl.map fun o => match o with
  | some sv => if sv.free then some sv else none
  | none => none
def wipeS (sl : Slots) : List Nat → Slots
  | [] => sl
  | v :: vs => (wipeS sl vs).set v none
def setAll : List Nat → List SV → Slots → Option Slots
  | [], [], sl => some sl
  | i :: is, v :: vs, sl => setAll is vs (sl.set i (some v))
  | _, _, _ => none
def asgT : Tg → SV → Slots → Option Slots
  | .nm i, v, sl => some (sl.set i (some v))
  | .tp is, .val (.tuple ds), sl => setAll is (ds.map .val) sl
  | .tp [i, j], .pk a b, sl => some ((sl.set i (some a)).set j (some b))
  | .tq i is, .val (.tuple [d, .tuple ds]), sl => setAll is (ds.map .val) (sl.set i (some (.val d)))
  | _, _, _ => none
/-- the items of a display -/
def vals : List SV → Option (List D)
  | [] => some []
  | .val d :: r => (vals r).map (d :: ·)
  | _ :: _ => none
def tupS (vs : List SV) : Option RV := match vals vs with
  | some ds => if ds.length ≤ szL then vD (.tuple ds) else none
  | none => match vs with
    | [a, b] => some (.sv (.pk a b))
    | _ => none
/-- a comprehension's loop -/
def lcGo (f : D → Store → Option (Option D × Store)) : List D → Store → Option (List D × Store)
  | [], S => some ([], S)
  | d :: ds, S => match f d S with
    | some (some y, S1) => match lcGo f ds S1 with
      | some (ys, S2) => some (y :: ys, S2)
      | none => none
    | some (none, S1) => lcGo f ds S1
    | none => none
def lc2Go (f : D → Store → Option (List D × Store)) : List D → Store → Option (List D × Store)
  | [], S => some ([], S)
  | d :: ds, S => match f d S with
    | some (ys, S1) => match lc2Go f ds S1 with
      | some (zs, S2) => some (ys ++ zs, S2)
      | none => none
    | none => none
def rngD (lo : Int) (n : Nat) : List D := (List.range n).map fun (i : Nat) => .int (lo + i)
def enmD (ds : List D) : List D := ((List.range ds.length).zip ds).map fun p => .tuple [.int (p.1 : Nat), p.2]
def zipD (xs ys : List D) : List D := (xs.zip ys).map fun p => .tuple [p.1, p.2]
def seqD : SV → Option (List D)
  | .val (.list ds) => some ds
  | .val (.tuple ds) => some ds
  | .val (.str x) => some (x.cps.toList.map strD)
  | .scr ns => some (ns.map .int)
  | .dct kvs => some (kvs.map (·.1))
  | _ => none
def bool? : Option (RV × Store) → Option (Bool × Store)
  | some (.sv (.val (.bool b)), S) => some (b, S)
  | _ => none
def fz? : Option (RV × Store) → Option (SV × Store)
  | some (r, S) => match fzR r with
    | some v => some (v, S)
    | none => none
  | none => none
def dat? : Option (SV × Store) → Option (D × Store)
  | some (.val d, S) => some (d, S)
  | _ => none
def int? : Option (RV × Store) → Option (Int × Store)
  | some (.sv (.val (.int i)), S) => some (i, S)
  | _ => none
def opt2 (f : RV → RV → Option RV) (r : RV) : Option (RV × Store) → Option (RV × Store)
  | some (q, S) => (f r q).map fun z => (z, S)
  | none => none

mutual
def evE (E : Ev) (sl : Slots) (S : Store) : Ex → Option (RV × Store)
  | .var i => match sl[i]? with
    | some (some (.own o)) => some (.bor o, S)
    | some (some v) => if v.free then some (.sv v, S) else none
    | _ => none
  | .glob g => match E.cs g with
    | some d => some (.sv (.val d), S)
    | none => none
  | .non => some (.sv (.val .none), S)
  | .bl b => some (.sv (.val (.bool b)), S)
  | .int i => some (.sv (.val (.int i)), S)
  | .str x => some (.sv (.val (.str x)), S)
  | .tup es => match evXs E sl S es with
    | some (vs, S1) => (tupS vs).map fun r => (r, S1)
    | none => none
  | .lst es => match evXs E sl S es with
    | some (vs, S1) => match vals vs with
      | some ds => if ds.length ≤ szL then some (.new (.lst ds), S1) else none
      | none => none
    | none => none
  | .cel es => match evXs E sl S es with
    | some (vs, S1) => match vals vs with
      | some ds => if ds.length ≤ szL then some (.sv (.cell S1.length), S1 ++ [ds]) else none
      | none => none
    | none => none
  | .dnew => some (.new (.dct []), S)
  | .dset k v => match dat? (fz? (evE E sl S k)) with
    | some (dk, S1) => match dat? (fz? (evE E sl S1 v)) with
      | some (dv, S2) => if keyFits [] dk then some (.new (.dct [(dk, dv)]), S2) else none
      | none => none
    | none => none
  | .get2 o a b => match evE E sl S o with
    | some (r, S1) => match dat? (fz? (evE E sl S1 a)) with
      | some (k, S2) => match dat? (fz? (evE E sl S2 b)) with
        | some (d, S3) => (get2S r k d).map fun z => (z, S3)
        | none => none
      | none => none
    | none => none
  | .sset a => match evE E sl S a with
    | some (r, S1) => (ssetS r).map fun z => (z, S1)
    | none => none
  | .lset a => match evE E sl S a with
    | some (r, S1) => (lsetS r).map fun z => (z, S1)
    | none => none
  | .min1 a => match evE E sl S a with
    | some (r, S1) => (min1S r).map fun z => (z, S1)
    | none => none
  | .sitm a => match evE E sl S a with
    | some (r, S1) => (sitmS r).map fun z => (z, S1)
    | none => none
  | .bop o a b => match evE E sl S a with
    | some (r, S1) => opt2 (bopS o) r (evE E sl S1 b)
    | none => none
  | .cop o a b => match evE E sl S a with
    | some (r, S1) => opt2 (fun x y => (copS o x y).map fun b => .sv (.val (.bool b))) r (evE E sl S1 b)
    | none => none
  | .chn o p a b c => match evE E sl S a with
    | some (x, S1) => match evE E sl S1 b with
      | some (y, S2) => match copS o x y with
        | some true => opt2 (fun x y => (copS p x y).map fun b => .sv (.val (.bool b))) y (evE E sl S2 c)
        | some false => some (.sv (.val (.bool false)), S2)
        | none => none
      | none => none
    | none => none
  | .neg a => match int? (evE E sl S a) with
    | some (i, S1) => some (.sv (.val (.int (-i))), S1)
    | none => none
  | .and a b => match bool? (evE E sl S a) with
    | some (true, S1) => match fz? (evE E sl S1 b) with
      | some (v, S2) => some (.sv v, S2)
      | none => none
    | some (false, S1) => some (.sv (.val (.bool false)), S1)
    | none => none
  | .or a b => match bool? (evE E sl S a) with
    | some (false, S1) => match fz? (evE E sl S1 b) with
      | some (v, S2) => some (.sv v, S2)
      | none => none
    | some (true, S1) => some (.sv (.val (.bool true)), S1)
    | none => none
  | .not a => match bool? (evE E sl S a) with
    | some (b, S1) => some (.sv (.val (.bool (!b))), S1)
    | none => none
  | .ite t a b => match bool? (evE E sl S t) with
    | some (true, S1) => match fz? (evE E sl S1 a) with
      | some (v, S2) => some (.sv v, S2)
      | none => none
    | some (false, S1) => match fz? (evE E sl S1 b) with
      | some (v, S2) => some (.sv v, S2)
      | none => none
    | none => none
  | .sub a i => match evE E sl S a with
    | some (r, S1) => match evE E sl S1 i with
      | some (q, S2) => (subS S2 r q).map fun z => (z, S2)
      | none => none
    | none => none
  | .slc a lo hi => match evE E sl S a with
    | some (r, S1) => match evO E sl S1 lo with
      | some (l, S2) => match evO E sl S2 hi with
        | some (h, S3) => (slcS r l h).map fun z => (z, S3)
        | none => none
      | none => none
    | none => none
  | .rev a => match evE E sl S a with
    | some (r, S1) => (revS r).map fun z => (z, S1)
    | none => none
  | .call f es => match evXs E sl S es with
    | some (vs, S1) => match E.call f vs S1 with
      | some (v, S2) => some (.sv v, S2)
      | none => none
    | none => none
  | .isi a t => match evE E sl S a with
    | some (r, S1) => (isiS r t).map fun b => (.sv (.val (.bool b)), S1)
    | none => none
  | .bi b es => match evEs E sl S es with
    | some (rs, S1) => (biS b rs).map fun r => (r, S1)
    | none => none
  | .me m o es => match evE E sl S o with
    | some (r, S1) => match evEs E sl S1 es with
      | some (rs, S2) => (meS m r rs).map fun r => (r, S2)
      | none => none
    | none => none
  | .lc elt tg it cd own => match evI E sl S it with
    | some (ds, S1) => match lcGo (fun d S => match asgT tg (.val d) (wipeS sl own) with
        | some sl1 => match evC E sl1 S cd with
          | some (true, S1) => (dat? (fz? (evE E sl1 S1 elt))).map fun p => (some p.1, p.2)
          | some (false, S1) => some (none, S1)
          | none => none
        | none => none) ds S1 with
      | some (ys, S2) => some (.new (.lst ys), S2)
      | none => none
    | none => none
  | .lc2 elt tg it cd tg1 it1 cd1 own own1 => match evI E sl S it with
    | some (ds, S1) => match lc2Go (fun d S => match asgT tg (.val d) (wipeS (noOwn sl) own) with
        | some sl1 => match evC E sl1 S cd with
          | some (true, S1) => match evI E sl1 S1 it1 with
            | some (es, S2) => lcGo (fun d S => match asgT tg1 (.val d) (wipeS sl1 own1) with
              | some sl2 => match evC E sl2 S cd1 with
                | some (true, S1) => (dat? (fz? (evE E sl2 S1 elt))).map fun p => (some p.1, p.2)
                | some (false, S1) => some (none, S1)
                | none => none
              | none => none) es S2
            | none => none
          | some (false, S1) => some ([], S1)
          | none => none
        | none => none) ds S1 with
      | some (ys, S2) => if ys.length ≤ szL then some (.new (.lst ys), S2) else none
      | none => none
    | none => none
  | .dc k v tg it cd own => match evI E sl S it with
    | some (ds, S1) => match lcGo (fun d S => match asgT tg (.val d) (wipeS sl own) with
        | some sl1 => match evC E sl1 S cd with
          | some (true, S1) => match dat? (fz? (evE E sl1 S1 k)) with
            | some (dk, S2) => (dat? (fz? (evE E sl1 S2 v))).map fun p => (some (.tuple [dk, p.1]), p.2)
            | none => none
          | some (false, S1) => some (none, S1)
          | none => none
        | none => none) ds S1 with
      | some (ys, S2) => match pairsD ys with
        | some kvs => if strKeys kvs then some (.new (.dct (dMerge [] kvs)), S2) else none
        | none => none
      | none => none
    | none => none
def evXs (E : Ev) (sl : Slots) (S : Store) : Exs → Option (List SV × Store)
  | .nil => some ([], S)
  | .cons e r => match fz? (evE E sl S e) with
    | some (v, S1) => match evXs E sl S1 r with
      | some (vs, S2) => some (v :: vs, S2)
      | none => none
    | none => none
def evEs (E : Ev) (sl : Slots) (S : Store) : Exs → Option (List RV × Store)
  | .nil => some ([], S)
  | .cons e r => match evE E sl S e with
    | some (v, S1) => match evEs E sl S1 r with
      | some (vs, S2) => some (v :: vs, S2)
      | none => none
    | none => none
/-- a slice's bound -/
def evO (E : Ev) (sl : Slots) (S : Store) : Exo → Option (Option Int × Store)
  | .no => some (none, S)
  | .yes e => match int? (evE E sl S e) with
    | some (i, S1) => some (some i, S1)
    | none => none
/-- a comprehension's test -/
def evC (E : Ev) (sl : Slots) (S : Store) : Exo → Option (Bool × Store)
  | .no => some (true, S)
  | .yes e => bool? (evE E sl S e)
def evI (E : Ev) (sl : Slots) (S : Store) : Itr → Option (List D × Store)
  | .seq e => match fz? (evE E sl S e) with
    | some (v, S1) => (seqD v).map fun ds => (ds, S1)
    | none => none
  | .rng e => match int? (evE E sl S e) with
    | some (i, S1) => if -(2 ^ 62) ≤ i ∧ i ≤ 16777216 then some (rngD 0 i.toNat, S1) else none
    | none => none
  | .rng2 a b => match int? (evE E sl S a) with
    | some (i, S1) => match int? (evE E sl S1 b) with
      | some (j, S2) => if -(2 ^ 62) ≤ i ∧ i < 2 ^ 62 ∧ -(2 ^ 62) ≤ j ∧ j < 2 ^ 62 ∧ j - i ≤ 16777216 then some (rngD i (j - i).toNat, S2) else none
      | none => none
    | none => none
  | .zip a b => match dat? (fz? (evE E sl S a)) with
    | some (x, S1) => match dat? (fz? (evE E sl S1 b)) with
      | some (y, S2) => match x, y with
        | .list xs, .list ys => some (zipD xs ys, S2)
        | .tuple xs, .tuple ys => some (zipD xs ys, S2)
        | _, _ => none
      | none => none
    | none => none
  | .enm a => match dat? (fz? (evE E sl S a)) with
    | some (.list xs, S1) => some (enmD xs, S1)
    | some (.tuple xs, S1) => some (enmD xs, S1)
    | _ => none
end

inductive Out where
  | nx (sl : Slots) (S : Store)
  | ret (v : SV) (S : Store)
  | brk (sl : Slots) (S : Store)
  | cnt (sl : Slots) (S : Store)
def forGo (f : D → Slots → Store → Option Out) : List D → Slots → Store → Option Out
  | [], sl, S => some (.nx sl S)
  | d :: ds, sl, S => match f d sl S with
    | some (.nx sl S) => forGo f ds sl S
    | some (.cnt sl S) => forGo f ds sl S
    | some (.brk sl S) => some (.nx sl S)
    | some (.ret v S) => some (.ret v S)
    | none => none
def whlGo (t : Slots → Store → Option (Bool × Store)) (f : Slots → Store → Option Out) : Nat → Slots → Store → Option Out
  | 0, _, _ => none
  | n + 1, sl, S => match t sl S with
    | some (true, S1) => match f sl S1 with
      | some (.nx sl S) => whlGo t f n sl S
      | some (.cnt sl S) => whlGo t f n sl S
      | some (.brk sl S) => some (.nx sl S)
      | some (.ret v S) => some (.ret v S)
      | none => none
    | some (false, S1) => some (.nx sl S1)
    | none => none
def putS (sl : Slots) (S : Store) (i : Nat) (k v : D) : Option (Slots × Store) := match sl[i]? with
  | some (some (.cell r)) => match S[r]?, k with
    | some ds, .int j => match ixN ds.length j with
      | some m => some (sl, S.set r (ds.set m v))
      | none => none
    | _, _ => none
  | some (some (.own (.lst ds))) => match k with
    | .int j => match ixN ds.length j with
      | some m => some (sl.set i (some (.own (.lst (ds.set m v)))), S)
      | none => none
    | _ => none
  | some (some (.own (.dct kvs))) => if keyFits kvs k ∧ kvs.length < szL then some (sl.set i (some (.own (.dct (dPut kvs k v)))), S) else none
  | _ => none

def setRs : List Nat → List RV → Slots → Option Slots
  | [], [], sl => some sl
  | i :: is, .sv v :: vs, sl => setRs is vs (sl.set i (some v))
  | i :: is, .new o :: vs, sl => setRs is vs (sl.set i (some (.own o)))
  | _, _, _ => none

mutual
def exS (E : Ev) (sl : Slots) (S : Store) : Sm → Option Out
  | .asg (.nm i) e => match evE E sl S e with
    | some (.sv v, S1) => some (.nx (sl.set i (some v)) S1)
    | some (.new o, S1) => some (.nx (sl.set i (some (.own o))) S1)
    | _ => none
  | .asg tg e => match fz? (evE E sl S e) with
    | some (v, S1) => (asgT tg v sl).map fun sl1 => .nx sl1 S1
    | none => none
  | .par is es => match evEs E sl S es with
    | some (rs, S1) => match setRs is rs sl with
      | some sl1 => some (.nx sl1 S1)
      | none => none
    | none => none
  | .put i k e => match dat? (fz? (evE E sl S e)) with
    | some (v, S1) => match dat? (fz? (evE E sl S1 k)) with
      | some (dk, S2) => (putS sl S2 i dk v).map fun p => .nx p.1 p.2
      | none => none
    | none => none
  | .app i e => match dat? (fz? (evE E sl S e)) with
    | some (v, S1) => match sl[i]? with
      | some (some (.own (.lst ds))) => if ds.length < szL then some (.nx (sl.set i (some (.own (.lst (ds ++ [v]))))) S1) else none
      | _ => none
    | none => none
  | .pop j i => match sl[i]? with
    | some (some (.own (.lst ds))) => match ds.getLast? with
      | some d => if i = j then none else some (.nx ((sl.set i (some (.own (.lst ds.dropLast)))).set j (some (.val d))) S)
      | none => none
    | _ => none
  | .upd i e => match evE E sl S e with
    | some (r, S1) => match toK r, sl[i]? with
      | some more, some (some (.own (.dct kvs))) => if oneKind (kvs ++ more) ∧ kvs.length + more.length ≤ szL then some (.nx (sl.set i (some (.own (.dct (dMerge kvs more))))) S1) else none
      | _, _ => none
    | none => none
  | .ret e => match fz? (evE E sl S e) with
    | some (v, S1) => if v.free then some (.ret v S1) else none
    | none => none
  | .retN => some (.ret (.val .none) S)
  | .ife t a b => match bool? (evE E sl S t) with
    | some (true, S1) => exSs E sl S1 a
    | some (false, S1) => exSs E sl S1 b
    | none => none
  | .forr tg it b => match evI E sl S it with
    | some (ds, S1) => forGo (fun d sl S => match asgT tg (.val d) sl with
      | some sl1 => exSs E sl1 S b
      | none => none) ds sl S1
    | none => none
  | .whl t b => whlGo (fun sl S => bool? (evE E sl S t)) (fun sl S => exSs E sl S b) E.n sl S
  | .expr e => match evE E sl S e with
    | some (_, S1) => some (.nx sl S1)
    | none => none
  | .pass => some (.nx sl S)
  | .brk => some (.brk sl S)
  | .cnt => some (.cnt sl S)
  | .never => none
  | .frz i => match sl[i]? with
    | some (some (.own o)) => some (.nx (sl.set i (some o.fz)) S)
    | _ => some (.nx sl S)
def exSs (E : Ev) (sl : Slots) (S : Store) : Sms → Option Out
  | .nil => some (.nx sl S)
  | .cons s r => match exS E sl S s with
    | some (.nx sl1 S1) => exSs E sl1 S1 r
    | o => o
end
/-- a def -/
structure Df where
  name : Str
  params : List Str
  N : List Str
  body : Sms
def startS (d : Df) (vs : List SV) : Slots := vs.map some ++ List.replicate (d.N.length - vs.length) none
/-- calls, k deep; n: turns of a while at most -/
def run (ds : Nat → Option Df) (cs : Nat → Option D) (n : Nat) : Nat → CallF
  | 0, _, _, _ => none
  | k + 1, f, vs, S => match ds f with
    | some d => if vs.length = d.params.length then match exSs ⟨run ds cs n k, cs, n⟩ (startS d vs) S d.body with
        | some (.ret v S1) => some (v, S1)
        | some (.nx _ S1) => some (.val .none, S1)
        | _ => none
      else none
    | none => none
end DL

/-! The data layer: new tuples, with their objects known. -/
namespace DL
open PySem PySem.Spec PyProof.Rows L2
section
variable {P : Program} {w : World} {H : Hp} {h : Heap} {xs : List V} {us : List Value}
/-- a plain tuple's object -/
abbrev tObj (us : List Value) : Obj := { cls := .type "tuple", data := .seq us.toArray }
theorem tz_ok {a : Addr} {o : Obj} (z : xs.length ≤ sizeLine) (r : Vals xs us) (g : h.get? a = some o) (hc : o.cls = .type "tuple") {n : Nat} (hd : o.data = .seq us.toArray n) : ObjOk P w H h a (.frz o (.tup xs)) :=
  ⟨g, z, us, r, o, g, hc, n, hd⟩
end
section
variable {X : Cx} {pins : List (Addr × Obj)} {σ : L2.St} {H : Hp} {s : Shared} {xs : List V} {us : List Value} {Q : VK}
/-- a new tuple is pushed -/
theorem tz_new (I : L2.Inv X pins σ H s) (z : xs.length ≤ sizeLine) (r : Vals xs us) (q : ∀ p o, H p = none → o.dict = none → Q (.ref p) (upd H p (.frz o (.tup xs)))) {t' : Nat} :
    EP X pins σ Q (.ref s.heap.objs.size) { s with heap := s.heap.push (tObj us), toks := t' } :=
  ⟨.ref s.heap.objs.size, _, I.laid (t' := t') (o := .frz (tObj us) (.tup xs)) (fun b ob e => Heap.get?_push_of_some _ e) (Nat.le_refl _) (tz_ok z r (Heap.get?_push_size _ rfl) rfl rfl), rfl, q _ _ (I.hok.fresh (Nat.le_refl _)) rfl⟩
end
section
variable {X : Cx}
def NwT (H : Hp) (xs : List V) (Q : VK) : Prop := ∀ p o, H p = none → o.dict = none → Q (.ref p) (upd H p (.frz o (.tup xs)))
theorem call_tupleZ : CallR X (.type "tuple") (fun xs H Q => ∃ p ys, xs = [.ref p] ∧ SqL X.K H p ys ∧ ∀ l o, H l = none → o.dict = none → Q (.ref l) (upd H l (.frz o (.tup ys)))) := by
  intro pins s σ H xs us Q I r hh
  obtain ⟨p, ys, rfl, hq, q⟩ := hh
  obtain ⟨u, rfl, rx⟩ := vals1 r
  cases rx
  obtain ⟨its, rv, pl, hz⟩ := I.list hq
  have hl := rv.length
  refine call_tuple_list pl.isList (fun h' kp => ?_) (by simp only [List.size_toArray]; omega)
  have I1 : L2.Inv X pins σ H { s with heap := h' } := I.kept (t' := s.toks) kp
  exact tz_new (t' := s.toks) I1 hz rv q
theorem op_catZ : OpR X (binaryOp .Add) (fun x y H Q => ∃ a b xs ys, x = .ref a ∧ y = .ref b ∧ SqT X.K H a xs ∧ SqT X.K H b ys ∧ xs.length + ys.length ≤ sizeLine ∧ (xs = [] → Q (.ref b) H) ∧ (xs ≠ [] → ys = [] → Q (.ref a) H) ∧ (xs ≠ [] → ys ≠ [] → NwT H (xs ++ ys) Q)) := by
  intro pins s σ H x y v u Q I rx ry hh
  obtain ⟨a, b, xs, ys, rfl, rfl, ha, hb, hz, q0, q1, q2⟩ := hh
  cases rx
  cases ry
  obtain ⟨i1, r1, p1, _⟩ := I.tuple ha
  obtain ⟨i2, r2, p2, _⟩ := I.tuple hb
  by_cases hx : xs = []
  · subst hx
    cases r1
    exact cat_tup0 p1 p2 ⟨.ref b, H, I, rfl, q0 rfl⟩
  · refine HT.cat_tup p1 p2 (fun z => hx (r1.nil_iff.mp z)) (fun z => ⟨.ref a, H, I, rfl, q1 hx (r2.nil_iff.mp z)⟩) (fun z => ?_) (by rw [← r1.length, ← r2.length]; exact hz)
    exact tz_new (t' := s.toks) I (by rw [List.length_append]; exact hz) (r1.append r2) (q2 hx fun e => z (r2.nil_iff.mpr e))
theorem sl_tupZ : SlR X (fun x lo hi H Q => ∃ a xs, x = .ref a ∧ SqT X.K H a xs ∧ (HT.sIx xs.length 0 lo = 0 ∧ HT.sIx xs.length xs.length hi = xs.length → Q (.ref a) H) ∧ (¬ (HT.sIx xs.length 0 lo = 0 ∧ HT.sIx xs.length xs.length hi = xs.length) → NwT H (cutV xs lo hi) Q)) := by
  intro pins s σ H x v vl vu lo hi sl Q I rx hs pl pu hh
  obtain ⟨a, xs, rfl, hx, q1, q2⟩ := hh
  cases rx
  obtain ⟨its, r, ht, hz⟩ := I.tuple hx
  have hl : its.toArray.size = xs.length := by rw [List.size_toArray]; exact r.length.symm
  refine ⟨"tuple", _, PyProof.Rows.slot_tuple_getitem.lookup, ht.typeIs, ?_⟩
  by_cases hw : HT.sIx xs.length 0 lo = 0 ∧ HT.sIx xs.length xs.length hi = xs.length
  · exact getItem_tuple_whole ht hs pl pu (by rw [hl]; exact hw) ⟨.ref a, H, I, rfl, q1 hw⟩
  · refine HT.getItem_tuple_cut ht hs pl pu (by rw [hl]; exact hw) ?_ (by rw [hl]; exact hz)
    rw [hl]
    exact tz_new (t' := s.toks) I (Nat.le_trans (cutV_length xs lo hi) hz) ((r.drop (HT.sIx xs.length 0 lo)).take (HT.sIx xs.length xs.length hi - HT.sIx xs.length 0 lo)) (q2 hw)
theorem pe_tupZ {es : List Expr} {k : Nat} {pos : Pos} {t : TA} (h : PA X es t) : PE X (.Tuple es k pos) (fun σ H Q => t σ H fun xs H1 => xs.length ≤ sizeLine ∧ NwT H1 xs Q) := by
  refine ⟨fun pins s σ H Q I hq => ?_⟩
  refine wpAny_Tuple_spliced (thn (h.run pos pins s σ H _ I hq) fun us s1 ⟨xs, H1, I1, r, z, q⟩ => ⟨by rw [← r.length]; exact z, ?_⟩)
  exact tz_new (t' := s1.toks) I1 z r q
theorem op_repZ : OpR X (binaryOp .Mult) (fun x y H Q => ∃ l k xs, x = .ref l ∧ y = .int k ∧ SqT X.K H l xs ∧ xs ≠ [] ∧ 2 ≤ k ∧ k ≤ 1000 ∧ xs.length ≤ 1000 ∧ NwT H (List.replicate k.toNat xs).flatten Q) := by
  intro pins s σ H x y v u Q I rx ry hh
  obtain ⟨l, k, xs, rfl, rfl, hT, hne, h1, h2, hz, q⟩ := hh
  cases rx
  obtain ⟨t, rfl⟩ := ry
  obtain ⟨its, r, ⟨⟨cls, dd, data, sl⟩, ho, hc, n, hd⟩, hs⟩ := I.tuple hT
  simp only at hc hd
  subst hc hd
  have hle : its.length = xs.length := r.length.symm
  have hi : its.toArray.isEmpty = false := by
    cases its with
    | nil => exact absurd (List.eq_nil_of_length_eq_zero hle.symm) hne
    | cons a b => rfl
  have hk : k.toNat * xs.length ≤ 1000 * 1000 := Nat.mul_le_mul (by omega) hz
  have e0 : its.toArray.size = xs.length := by rw [List.size_toArray, hle]
  have hm : ((its.toArray.size : Nat) : Int) * k ≤ 1000000 := by
    rw [e0]
    have a1 : ((xs.length : Nat) : Int) * k ≤ 1000 * k := Int.mul_le_mul_of_nonneg_right (by omega) (by omega)
    omega
  have fl : (List.replicate k.toNat its).flatten.length ≤ sizeLine := by
    rw [PyProof.Rows.lm_len_rep_flat, hle, sizeLine_eq]; omega
  have fx : (List.replicate k.toNat xs).flatten.length ≤ sizeLine := by
    rw [PyProof.Rows.lm_len_rep_flat, sizeLine_eq]; omega
  have c0 : (decide (k < -(2 ^ 63)) || decide (k ≥ 2 ^ 63)) = false := by
    rw [Bool.or_eq_false_iff]; exact ⟨decide_eq_false (by omega), decide_eq_false (by omega)⟩
  have c1 : (its.toArray.isEmpty || k == 1) = false := by
    rw [hi]; exact beq_eq_false_iff_ne.mpr (by omega)
  have c2 : (decide (k ≤ 0) || its.toArray.isEmpty) = false := by
    rw [hi, Bool.or_false]; exact decide_eq_false (by omega)
  have c4 : Builtin.Tuple.tupleTooMany (((its.toArray.size : Nat) : Int) * k) = false := by
    unfold Builtin.Tuple.tupleTooMany
    rw [sizeLine_eq]; exact decide_eq_false (by omega)
  have tw := tuple_mulW l its.toArray n dd sl k t c0 c1 c2 (by omega) c4 (by rw [size_rep, List.size_toArray]; exact fl)
  refine wpAny_binaryOp_repeat_ref (T := "tuple") (U := "int") (by decide) ⟨_, ho, rfl⟩ (fun s' => typeIs_int s' k t) noFill_tuple_mul F.fills_int_mul F.slot_int_rmul repeat_tuple F.slot_int_index.lookup
    (call_meets F.slot_int_rmul (typeIs_int s k t) F.entry_int_rmul (F.args_int_rmul_2 _ _) (int_rmul_tuple k t l its.toArray n dd sl) ⟨ho, rfl, ⟨_, ho, rfl⟩, ?_⟩)
  refine call_meets F.slot_tuple_mul ⟨_, ho, rfl⟩ F.entry_tuple_mul (F.args_tuple_mul_2 _ _) tw ⟨ho, ?_⟩
  rw [size_rep]
  exact tz_new (t' := s.toks) I fx (r.rep k.toNat) q
end
end DL

/-! The data layer, part 3: operators keep what the plain words say. -/
namespace DL
open PySem PySem.Spec PyProof.Rows L2

theorem szL_eq : szL = sizeLine := by rw [sizeLine_eq]; rfl

section
variable {w : World} {K : Frg} {F0 H0 F H : Hp} {M0 M : List Addr} {S : Store} {sl : Slots} {σ : L2.St} {v x y : V} {d : D}
theorem RRV.dat (h : RRV w K H0 F M H v (.sv (.val d))) : Rp K F v d := by
  have h2 := h.2
  unfold RSV at h2
  exact h2
theorem RRV.ofd (h : Rp K F v d) : RRV w K H0 F M H v (.sv (.val d)) := ⟨rfl, by unfold RSV; exact h⟩
theorem RRV.int_ (i : Int) : RRV w K H0 F M H (.int i) (.sv (.val (.int i))) := RRV.ofd (.int i)
theorem RRV.bl_ (i : Bool) : RRV w K H0 F M H (.bl i) (.sv (.val (.bool i))) := RRV.ofd (.bl i)
theorem Rp.int_inv {i : Int} (h : Rp K F v (.int i)) : v = .int i := by cases h; rfl
theorem Rp.bl_inv {i : Bool} (h : Rp K F v (.bool i)) : v = .bl i := by cases h; rfl
theorem Rp.non_inv (h : Rp K F v .none) : v = .non := by cases h; rfl
theorem Rp.str_inv {i : Str} (h : Rp K F v (.str i)) : v = .str i ∧ PyData.strOk i = true ∧ i.length ≤ sizeLine := by cases h with | str e z => exact ⟨rfl, e, z⟩
theorem Rp.tup_inv {ds : List D} (h : Rp K F v (.tuple ds)) : ∃ a xs, v = .ref a ∧ SqT K F a xs ∧ xs.length ≤ sizeLine ∧ Rps K F xs ds := by cases h with | tup q z r => exact ⟨_, _, rfl, q.sq, z, r⟩
theorem Rp.tup_inv2 {ds : List D} (h : Rp K F v (.tuple ds)) : ∃ a xs, v = .ref a ∧ StT K F a xs ∧ xs.length ≤ sizeLine ∧ Rps K F xs ds := by cases h with | tup q z r => exact ⟨_, _, rfl, q, z, r⟩
theorem Rp.lst_inv {ds : List D} (h : Rp K F v (.list ds)) : ∃ a xs, v = .ref a ∧ F a = some (.lst xs) ∧ xs.length ≤ sizeLine ∧ Rps K F xs ds := by cases h with | lst q z r => exact ⟨_, _, rfl, q, z, r⟩
theorem Rp.dct_inv {ds : List (D × D)} (h : Rp K F v (.dict ds)) : False := by cases h

/-- data as the library reads it -/
theorem Rp.dp (s : Sub F H) {d : D} {v : V} (h : Rp K F v d) : Dp K H v d := by
    induction h using Rp.rec (motive_2 := fun vs ds _ => DpAll K H vs ds) with
    | non => exact .non
    | bl b => exact .bl b
    | int i => exact .int i
    | str e z => exact .str _
    | lst q z r ih => exact .lst (SqL.of (s _ _ q)) ih
    | tup q z r ih => exact .tup (SqT.sub s q.sq) ih
    | nil => exact .nil
    | cons h r ih1 ih2 => exact .cons ih1 ih2
theorem Rps.dp (s : Sub F H) {vs : List V} {ds : List D} (h : Rps K F vs ds) : DpAll K H vs ds := by
  induction h using Rps.rec (motive_1 := fun v d _ => Dp K H v d) with
  | non => exact .non
  | bl b => exact .bl b
  | int i => exact .int i
  | str e z => exact .str _
  | lst q z r ih => exact .lst (SqL.of (s _ _ q)) ih
  | tup q z r ih => exact .tup (SqT.sub s q.sq) ih
  | nil => exact .nil
  | cons h r ih1 ih2 => exact .cons ih1 ih2
theorem Rp.lay {v : V} {d : D} (h : Rp K F v d) : d.canLay0 = true := by
  induction h using Rp.rec (motive_2 := fun vs ds _ => PyData.canLayAll0 ds = true) with
  | non => rfl
  | bl b => rfl
  | int i => rfl
  | str e z => simpa [PyData.canLay0] using e
  | lst q z r ih => simpa [PyData.canLay0] using ih
  | tup q z r ih => simpa [PyData.canLay0] using ih
  | nil => rfl
  | cons h r ih1 ih2 => simp [PyData.canLayAll0, ih1, ih2]
theorem Rps.lay {vs : List V} {ds : List D} (h : Rps K F vs ds) : PyData.canLayAll0 ds = true := by
  induction h using Rps.rec (motive_1 := fun v d _ => d.canLay0 = true) with
  | non => rfl
  | bl b => rfl
  | int i => rfl
  | str e z => simpa [PyData.canLay0] using e
  | lst q z r ih => simpa [PyData.canLay0] using ih
  | tup q z r ih => simpa [PyData.canLay0] using ih
  | nil => rfl
  | cons h r ih1 ih2 => simp [PyData.canLayAll0, ih1, ih2]

/-- an owned or frozen list, for a look -/
theorem toL_rep {a : RV} {ds : List D} (st : Sub F H) (h : RRV w K H0 F M H v a) (e : toL a = some ds) : ∃ p xs, v = .ref p ∧ H p = some (.lst xs) ∧ xs.length ≤ sizeLine ∧ Rps K F xs ds := by
  unfold toL at e
  split at e
  · cases e
    obtain ⟨a, xs, rfl, q, z, r⟩ := h.dat.lst_inv
    exact ⟨a, xs, rfl, st _ _ q, z, r⟩
  · cases e
    obtain ⟨a, rfl, _, _, _, vs, q, z, r⟩ := h
    exact ⟨a, vs, rfl, q, z, r⟩
  · cases e
    obtain ⟨a, rfl, _, _, vs, q, z, r⟩ := h
    exact ⟨a, vs, rfl, q, z, r⟩
  · cases e
theorem intsRp (ns : List Int) : Rps K F (ns.map V.int) (ns.map PyData.int) := by
  induction ns with
  | nil => exact .nil
  | cons n r ih => exact .cons (.int n) ih
theorem toSeq_rep {a : RV} {ds : List D} (st : Sub F H) (h : RRV w K H0 F M H v a) (e : toSeq a = some ds) : ∃ p xs, v = .ref p ∧ (SqL K H p xs ∨ SqT K H p xs) ∧ xs.length ≤ sizeLine ∧ Rps K F xs ds := by
  unfold toSeq at e
  split at e
  · cases e
    obtain ⟨a, xs, rfl, q, z, r⟩ := h.dat.lst_inv
    exact ⟨a, xs, rfl, .inl (SqL.of (st _ _ q)), z, r⟩
  · cases e
    obtain ⟨a, xs, rfl, q, z, r⟩ := h.dat.tup_inv
    exact ⟨a, xs, rfl, .inr (SqT.sub st q), z, r⟩
  · cases e
    have h2 := h.2
    unfold RSV at h2
    obtain ⟨a, rfl, z, q⟩ := h2
    exact ⟨a, _, rfl, .inl (SqL.sub st q), by rw [List.length_map]; exact z, intsRp _⟩
  · cases e
    obtain ⟨a, rfl, _, _, _, vs, q, z, r⟩ := h
    exact ⟨a, vs, rfl, .inl (SqL.of q), z, r⟩
  · cases e
    obtain ⟨a, rfl, _, _, vs, q, z, r⟩ := h
    exact ⟨a, vs, rfl, .inl (SqL.of q), z, r⟩
  · cases e
theorem toK_rep {a : RV} {kvs : List (D × D)} (st : Sub F H) (h : RRV w K H0 F M H v a) (e : toK a = some kvs) : ∃ p, v = .ref p ∧ DctAt w K F H p kvs := by
  unfold toK at e
  split at e
  · cases e
    have h2 := h.2
    unfold RSV at h2
    obtain ⟨a, rfl, q⟩ := h2
    exact ⟨a, rfl, q.frz (Sub.refl _) st⟩
  · cases e
    obtain ⟨a, rfl, _, _, _, q⟩ := h
    exact ⟨a, rfl, q⟩
  · cases e
    obtain ⟨a, rfl, _, _, q⟩ := h
    exact ⟨a, rfl, q⟩
  · cases e
/-- as data, at the tracked heap -/
theorem toD_rep {a : RV} {d : D} (st : Sub F H) (h : RRV w K H0 F M H v a) (e : toD a = some d) : Dp K H v d ∧ d.canLay0 = true := by
  unfold toD at e
  split at e
  · cases e
    exact ⟨h.dat.dp st, h.dat.lay⟩
  · cases e
    obtain ⟨a, rfl, _, _, _, vs, q, z, r⟩ := h
    exact ⟨.lst (SqL.of q) (r.dp st), by simpa [PyData.canLay0] using r.lay⟩
  · cases e
    obtain ⟨a, rfl, _, _, vs, q, z, r⟩ := h
    exact ⟨.lst (SqL.of q) (r.dp st), by simpa [PyData.canLay0] using r.lay⟩
  · cases e
theorem Stt.new (h : Stt w K F0 M0 H0 F M S sl σ H) {p : Addr} {o : HO} (hp : H p = none) : Stt w K F0 M0 H0 F M S sl σ (upd H p o) := h.xt (Xt.new h.sub hp) (h.cls.new h.sub hp)
theorem Stt.newF (h : Stt w K F0 M0 H0 F M S sl σ H) {p : Addr} {o : HO} (hp : H p = none) : Stt w K F0 M0 H0 (upd F p o) M S sl σ (upd H p o) := h.xt (Xt.newF h.sub hp) (h.cls.newF h.sub hp)
theorem Sub.none {p : Addr} (s : Sub F H) (hp : H p = none) : F p = none := by
  cases q : F p with
  | none => rfl
  | some u => rw [s p u q] at hp; cases hp
theorem Xt.none0 (x : Xt F0 M0 H0 F M H) {p : Addr} (hp : H p = none) : H0 p = none := by
  cases q : H0 p with
  | none => rfl
  | some u => exact absurd hp (x.there p (by rw [q]; exact fun z => nomatch z))
/-- a new list, as an expression's value -/
theorem Stt.newL (h : Stt w K F0 M0 H0 F M S sl σ H) {p : Addr} {xs : List V} {ds : List D} (hp : H p = none) (r : Rps K F xs ds) (z : xs.length ≤ sizeLine) : RRV w K H0 F M (upd H p (.lst xs)) (.ref p) (.new (.lst ds)) :=
  ⟨p, rfl, h.base.none0 hp, h.sub.none hp, fun z => (h.cls.mem_some z).2 hp, xs, upd_same, z, r⟩
theorem tupF {p : Addr} {o : Obj} {xs : List V} {ds : List D} (hp : F p = none) (ho : o.dict = none) (r : Rps K F xs ds) (z : xs.length ≤ sizeLine) : Rp K (upd F p (.frz o (.tup xs))) (.ref p) (.tuple ds) := by
  have s : Sub F (upd F p (.frz o (.tup xs))) := fun a o e => by rw [upd_ne (ne_of_none e hp)]; exact e
  exact .tup (.inl ⟨o, upd_same, ho⟩) z (Rps.sub s r)
end

/-- an operator on values keeps f -/
def rP (w : World) (K : Frg) (f : RV → RV → Option RV) : R2 := fun x y H Q => ∃ (F0 : Hp) (M0 : List Addr) (H0 F : Hp) (M : List Addr) (S : Store) (sl : Slots) (σ : L2.St) (a b r : RV),
  Stt w K F0 M0 H0 F M S sl σ H ∧ RRV w K H0 F M H x a ∧ RRV w K H0 F M H y b ∧ f a b = some r ∧
    ∀ F' H' v, Xt F M H F' M H' → Stt w K F0 M0 H0 F' M S sl σ H' → RRV w K H0 F' M H' v r → NewIn H v r → Q v H'

section
variable {X : Cx} {op : CmpOp}
/-- same heap, a datum -/
theorem keepQ {w : World} {K : Frg} {F0 H0 F H : Hp} {M0 M : List Addr} {S : Store} {sl : Slots} {σ : L2.St} {r : RV} {v : V} {Q : VK} (st : Stt w K F0 M0 H0 F M S sl σ H)
    (k : ∀ F' H' v, Xt F M H F' M H' → Stt w K F0 M0 H0 F' M S sl σ H' → RRV w K H0 F' M H' v r → NewIn H v r → Q v H') (h : RRV w K H0 F M H v r) (n : NewIn H v r := by trivial) : Q v H := k F H v (Xt.refl st.sub) st h n

theorem strOk_app {x z : Str} (h1 : PyData.strOk x = true) (h2 : PyData.strOk z = true) : PyData.strOk (x ++ z) = true := by
  unfold PyData.strOk at *
  show (x.cps ++ z.cps).all _ = true
  rw [Array.all_append, h1, h2]
  rfl

theorem str_app_len (x y : Str) : (x ++ y).length = x.length + y.length := by
  show (x.cps ++ y.cps).size = _
  rw [Array.size_append]; rfl
theorem rep_len {α : Type} (n : Nat) (xs : List α) : (List.replicate n xs).flatten.length = n * xs.length := by
  rw [List.length_flatten, List.map_replicate, List.sum_replicate_nat]
theorem rep_fit {α : Type} {k : Int} {xs : List α} (h : xs.length ≤ 1000) (hk : k ≤ 1000) : (List.replicate k.toNat xs).flatten.length ≤ sizeLine := by
  rw [rep_len, sizeLine_eq]
  have h1 : k.toNat ≤ 1000 := by omega
  exact Nat.le_trans (Nat.mul_le_mul h1 h) (by decide)
theorem op_addD : OpR X (binaryOp .Add) (rP X.w X.K addS) := by
  intro pins s τ H x y v u Q I rx ry ⟨F0, M0, H0, F, M, S, sl, σ, a, b, r, st, ha, hb, e, k⟩
  unfold addS at e
  split at e
  · cases e
    cases ha.dat.int_inv
    cases hb.dat.int_inv
    exact op_add pins s τ H _ _ v u Q I rx ry ⟨_, _, rfl, rfl, keepQ st k (RRV.int_ _)⟩
  · split at e
    · rename_i hz
      cases e
      obtain ⟨rfl, o1, _⟩ := ha.dat.str_inv
      obtain ⟨rfl, o2, _⟩ := hb.dat.str_inv
      exact op_add_str pins s τ H _ _ v u Q I rx ry ⟨_, _, rfl, rfl, by rw [← szL_eq]; exact hz, keepQ st k (RRV.ofd (.str (strOk_app o1 o2) (by rw [str_app_len, ← szL_eq]; exact hz)))⟩
    · cases e
  · split at e
    · rename_i hz
      cases e
      obtain ⟨p, vs, rfl, hp, z1, r1⟩ := ha.dat.tup_inv2
      obtain ⟨q, us, rfl, hq, z2, r2⟩ := hb.dat.tup_inv
      refine op_catZ pins s τ H _ _ v u Q I rx ry ⟨p, q, vs, us, rfl, rfl, SqT.sub st.sub hp.sq, SqT.sub st.sub hq, by rw [r1.length, r2.length, ← szL_eq]; exact hz, fun e0 => ?_, fun _ e0 => ?_, fun _ _ t o ht ho => ?_⟩
      · subst e0
        cases r1
        exact keepQ st k hb
      · subst e0
        cases r2
        refine keepQ st k (RRV.ofd ?_)
        rw [List.append_nil]
        exact .tup hp z1 r1
      · exact k _ _ _ (Xt.newF st.sub ht) (st.newF ht) (RRV.ofd (tupF (st.sub.none ht) ho (r1.append r2) (by rw [List.length_append, r1.length, r2.length, ← szL_eq]; exact hz))) trivial
    · cases e
  · cases e
    cases ha.dat.bl_inv
    cases hb.dat.int_inv
    cases rx
    obtain ⟨t, rfl⟩ := ry
    exact PySem.IntBool.add_bool_int ⟨.int _, H, I.tok _, ⟨_, rfl⟩, keepQ st k (RRV.int_ _)⟩
  · unfold catL at e
    split at e
    · rename_i e1 e2
      split at e
      · rename_i hz
        cases e
        obtain ⟨p, vs, rfl, hp, z1, r1⟩ := toL_rep st.sub ha e1
        obtain ⟨q, us, rfl, hq, z2, r2⟩ := toL_rep st.sub hb e2
        refine op_cat pins s τ H _ _ v u Q I rx ry ⟨p, q, vs, us, rfl, rfl, hp, hq, by rw [r1.length, r2.length, ← szL_eq]; exact hz, fun t ht => ?_⟩
        exact k F _ _ (Xt.new st.sub ht) (st.new ht) (st.newL ht (r1.append r2) (by rw [List.length_append, r1.length, r2.length, ← szL_eq]; exact hz)) (newIn ht)
      · cases e
    · cases e
theorem op_subD : OpR X (binaryOp .Sub) (rP X.w X.K subtS) := by
  intro pins s τ H x y v u Q I rx ry ⟨F0, M0, H0, F, M, S, sl, σ, a, b, r, st, ha, hb, e, k⟩
  unfold subtS at e
  split at e
  · cases e
    cases ha.dat.int_inv
    cases hb.dat.int_inv
    exact op_sub pins s τ H _ _ v u Q I rx ry ⟨_, _, rfl, rfl, keepQ st k (RRV.int_ _)⟩
  · cases e
    cases ha.dat.bl_inv
    cases hb.dat.int_inv
    cases rx
    obtain ⟨t, rfl⟩ := ry
    exact PySem.IntBool.sub_bool_int ⟨.int _, H, I.tok _, ⟨_, rfl⟩, keepQ st k (RRV.int_ _)⟩
  · cases e
theorem Rps.rep {F : Hp} {K : Frg} {vs : List V} {ds : List D} (r : Rps K F vs ds) : ∀ n : Nat, Rps K F (List.replicate n vs).flatten (List.replicate n ds).flatten
  | 0 => .nil
  | n + 1 => by
    rw [List.replicate_succ, List.replicate_succ, List.flatten_cons, List.flatten_cons]
    exact r.append (Rps.rep r n)
theorem op_mulD : OpR X (binaryOp .Mult) (rP X.w X.K mulS) := by
  intro pins s τ H x y v u Q I rx ry ⟨F0, M0, H0, F, M, S, sl, σ, a, b, r, st, ha, hb, e, k⟩
  unfold mulS at e
  split at e
  · split at e
    · rename_i hc
      cases e
      cases ha.dat.int_inv
      cases hb.dat.int_inv
      exact op_mul pins s τ H _ _ v u Q I rx ry ⟨_, _, rfl, rfl, hc, keepQ st k (RRV.int_ _)⟩
    · cases e
  · split at e
    · cases e
    · rename_i hne
      split at e
      · rename_i hz
        cases e
        obtain ⟨p, vs, rfl, hp, z1, r1⟩ := ha.dat.tup_inv
        cases hb.dat.int_inv
        refine op_repZ pins s τ H _ _ v u Q I rx ry ⟨p, _, vs, rfl, rfl, SqT.sub st.sub hp, fun z => ?_, hz.1, hz.2.1, by rw [r1.length]; exact hz.2.2, fun t o ht ho => ?_⟩
        · subst z
          cases r1
          exact hne rfl
        · exact k _ _ _ (Xt.newF st.sub ht) (st.newF ht) (RRV.ofd (tupF (st.sub.none ht) ho (r1.rep _) (rep_fit (by rw [r1.length]; exact hz.2.2) hz.2.1))) trivial
      · cases e
  · unfold repL at e
    split at e
    · rename_i e1
      split at e
      · rename_i hz
        cases e
        obtain ⟨p, vs, rfl, hp, z1, r1⟩ := toL_rep st.sub ha e1
        cases hb.dat.int_inv
        refine op_rep pins s τ H _ _ v u Q I rx ry ⟨p, _, vs, rfl, rfl, hp, by omega, by omega, by rw [r1.length, ← szL_eq]; exact hz.2.2, fun t ht => ?_⟩
        exact k F _ _ (Xt.new st.sub ht) (st.new ht) (st.newL ht (r1.rep _) (by rw [rep_len, r1.length, ← szL_eq, Nat.mul_comm]; exact hz.2.2)) (newIn ht)
      · cases e
    · cases e
  · cases e
theorem op_divD : OpR X (binaryOp .FloorDiv) (rP X.w X.K divS) := by
  intro pins s τ H x y v u Q I rx ry ⟨F0, M0, H0, F, M, S, sl, σ, a, b, r, st, ha, hb, e, k⟩
  unfold divS at e
  split at e
  · split at e
    · rename_i hz
      cases e
      cases ha.dat.int_inv
      cases hb.dat.int_inv
      exact op_fdiv pins s τ H _ _ v u Q I rx ry ⟨_, _, rfl, rfl, hz, keepQ st k (RRV.int_ _)⟩
    · cases e
  · cases e
theorem op_modD : OpR X (binaryOp .Mod) (rP X.w X.K modS) := by
  intro pins s τ H x y v u Q I rx ry ⟨F0, M0, H0, F, M, S, sl, σ, a, b, r, st, ha, hb, e, k⟩
  unfold modS at e
  split at e
  · split at e
    · rename_i hz
      cases e
      cases ha.dat.int_inv
      cases hb.dat.int_inv
      exact op_mod pins s τ H _ _ v u Q I rx ry ⟨_, _, rfl, rfl, hz, keepQ st k (RRV.int_ _)⟩
    · cases e
  · cases e
theorem op_powD : OpR X (binaryOp .Pow) (rP X.w X.K powS) := by
  intro pins s τ H x y v u Q I rx ry ⟨F0, M0, H0, F, M, S, sl, σ, a, b, r, st, ha, hb, e, k⟩
  unfold powS at e
  split at e
  · split at e
    · rename_i hz
      cases e
      cases ha.dat.int_inv
      cases hb.dat.int_inv
      exact op_pow pins s τ H _ _ v u Q I rx ry ⟨_, _, rfl, rfl, hz, keepQ st k (RRV.int_ _)⟩
    · cases e
  · cases e
def opOf : BOp → Operator
  | .add => .Add
  | .sub => .Sub
  | .mul => .Mult
  | .fdiv => .FloorDiv
  | .mod => .Mod
  | .pow => .Pow
theorem op_bop (o : BOp) : OpR X (binaryOp (opOf o)) (rP X.w X.K (bopS o)) := by
  cases o
  · exact op_addD
  · exact op_subD
  · exact op_mulD
  · exact op_divD
  · exact op_modD
  · exact op_powD

/-! ### comparisons -/
abbrev bR (f : RV → RV → Option Bool) : RV → RV → Option RV := fun a b => (f a b).map fun c => .sv (.val (.bool c))
theorem bR_inv {f : RV → RV → Option Bool} {a b r : RV} (h : bR f a b = some r) : ∃ c, f a b = some c ∧ r = .sv (.val (.bool c)) := by
  cases e : f a b with
  | none => simp [bR, e] at h
  | some c => simp [bR, e] at h; exact ⟨c, rfl, h.symm⟩
/-- a comparison of readable values that leaves memory as it is -/
theorem opB_of {op : CmpOp} {f : RV → RV → Option Bool}
    (h : ∀ (pins : List (Addr × Obj)) (s : Shared) (τ : L2.St) (H : Hp) (x y : V) (v u : Value) (Q : Value → Shared → Prop), L2.Inv X pins τ H s → RelV x v → RelV y u →
      ∀ (F0 : Hp) (M0 : List Addr) (H0 F : Hp) (M : List Addr) (S : Store) (sl : Slots) (σ : L2.St) (a b : RV) (c : Bool), Stt X.w X.K F0 M0 H0 F M S sl σ H → RRV X.w X.K H0 F M H x a → RRV X.w X.K H0 F M H y b → f a b = some c →
        (∀ s', L2.Inv X pins τ H s' → Q (.bool c) s') → wpAny (model X.prog X.w) X.A (compareOp op v u) Q X.xe s) : OpR X (compareOp op) (rP X.w X.K (bR f)) := by
  intro pins s τ H x y v u Q I rx ry ⟨F0, M0, H0, F, M, S, sl, σ, a, b, r, st, ha, hb, e, k⟩
  obtain ⟨c, e1, rfl⟩ := bR_inv e
  exact h pins s τ H x y v u _ I rx ry F0 M0 H0 F M S sl σ a b c st ha hb e1 fun s' I' => ⟨.bl c, H, I', rfl, keepQ st k (RRV.bl_ c)⟩
/-- from a rule of the layer -/
theorem ofOp {op : CmpOp} {r : R2} (ho : OpR X (compareOp op) r) {pins : List (Addr × Obj)} {s : Shared} {τ : L2.St} {H : Hp} {x y : V} {v u : Value} {Q : Value → Shared → Prop} {c : Bool}
    (I : L2.Inv X pins τ H s) (rx : RelV x v) (ry : RelV y u) (hr : ∀ Q' : VK, Q' (.bl c) H → r x y H Q') (q : ∀ s', L2.Inv X pins τ H s' → Q (.bool c) s') : wpAny (model X.prog X.w) X.A (compareOp op v u) Q X.xe s :=
  thn (ho pins s τ H x y v u (fun z H' => z = .bl c ∧ H' = H) I rx ry (hr _ ⟨rfl, rfl⟩)) fun z s' ⟨v', H', I', r', e, eh⟩ => by
    subst e eh
    cases r'
    exact q s' I'
theorem op_ltD (hu : X.A.units + 64 < cLine) : OpR X (compareOp .Lt) (rP X.w X.K (bR ltS2)) := opB_of fun pins s τ H x y v u Q I rx ry F0 M0 H0 F M S sl σ a b c st ha hb e q => by
  unfold ltS2 at e
  split at e
  · cases e
    cases ha.dat.int_inv
    cases hb.dat.int_inv
    exact ofOp op_lt I rx ry (fun Q' h => ⟨_, _, rfl, rfl, h⟩) q
  · cases e
    obtain ⟨rfl, _, _⟩ := ha.dat.str_inv
    obtain ⟨rfl, _, _⟩ := hb.dat.str_inv
    exact ofOp op_lt_str I rx ry (fun Q' h => ⟨_, _, rfl, rfl, h⟩) q
  · split at e
    · rename_i hz
      cases e
      obtain ⟨h1, h2, h3⟩ := hz
      obtain ⟨as, r1⟩ := Dp.reads I _ _ _ (ha.dat.dp st.sub) rx
      obtain ⟨bs, r2⟩ := Dp.reads I _ _ _ (hb.dat.dp st.sub) ry
      refine PySem.W.rcLt_alike _ _ X.A s v u as bs r1 r2 (by simpa [PySem.W.alike] using h1) (by simp) ?_ _ _ _ _ (q s I)
      simp only [PyData.depth]
      omega
    · cases e
  · cases e
theorem op_leD : OpR X (compareOp .LtE) (rP X.w X.K (bR leS2)) := opB_of fun pins s τ H x y v u Q I rx ry F0 M0 H0 F M S sl σ a b c st ha hb e q => by
  unfold leS2 at e
  split at e
  · cases e
    cases ha.dat.int_inv
    cases hb.dat.int_inv
    exact ofOp op_le I rx ry (fun Q' h => ⟨_, _, rfl, rfl, h⟩) q
  · cases e
    obtain ⟨rfl, _, _⟩ := ha.dat.str_inv
    obtain ⟨rfl, _, _⟩ := hb.dat.str_inv
    exact ofOp op_le_str I rx ry (fun Q' h => ⟨_, _, rfl, rfl, h⟩) q
  · cases e
theorem op_gtD : OpR X (compareOp .Gt) (rP X.w X.K (bR gtS2)) := opB_of fun pins s τ H x y v u Q I rx ry F0 M0 H0 F M S sl σ a b c st ha hb e q => by
  unfold gtS2 at e
  split at e
  · cases e
    cases ha.dat.int_inv
    cases hb.dat.int_inv
    exact ofOp op_gt I rx ry (fun Q' h => ⟨_, _, rfl, rfl, h⟩) q
  · cases e
    obtain ⟨rfl, _, _⟩ := ha.dat.str_inv
    obtain ⟨rfl, _, _⟩ := hb.dat.str_inv
    exact ofOp op_gt_str I rx ry (fun Q' h => ⟨_, _, rfl, rfl, h⟩) q
  · cases e
theorem op_geD : OpR X (compareOp .GtE) (rP X.w X.K (bR geS2)) := opB_of fun pins s τ H x y v u Q I rx ry F0 M0 H0 F M S sl σ a b c st ha hb e q => by
  unfold geS2 at e
  split at e
  · cases e
    cases ha.dat.int_inv
    cases hb.dat.int_inv
    exact ofOp op_ge I rx ry (fun Q' h => ⟨_, _, rfl, rfl, h⟩) q
  · cases e
    obtain ⟨rfl, _, _⟩ := ha.dat.str_inv
    obtain ⟨rfl, _, _⟩ := hb.dat.str_inv
    exact ofOp op_ge_str I rx ry (fun Q' h => ⟨_, _, rfl, rfl, h⟩) q
  · cases e
theorem isNon_rep {w : World} {K : Frg} {H0 F H : Hp} {M : List Addr} {v : V} {a : RV} (h : RRV w K H0 F M H v a) : decide (v = .non) = isNon a := by
  unfold isNon
  split
  · rw [h.dat.non_inv]; rfl
  · rename_i hn
    refine decide_eq_false fun z => ?_
    subst z
    cases a with
    | sv s =>
      have h2 := h.2
      cases s with
      | val d =>
        have h3 := h.dat
        cases h3
        exact hn rfl
      | cell r => unfold RSV at h2; obtain ⟨_, e, _⟩ := h2; cases e
      | dct kvs => unfold RSV at h2; obtain ⟨_, e, _⟩ := h2; cases e
      | pk a b => unfold RSV at h2; obtain ⟨_, _, _, e, _⟩ := h2; cases e
      | scr ns => unfold RSV at h2; obtain ⟨_, e, _⟩ := h2; cases e
      | own o => unfold RSV at h2; obtain ⟨_, e, _⟩ := h2; cases e
    | new o => obtain ⟨_, e, _⟩ := h; cases e
    | bor o => obtain ⟨_, e, _⟩ := h; cases e
theorem isNS_inv {a b : RV} {c : Bool} (h : isNS a b = some c) : isNon b = true ∧ c = isNon a := by
  unfold isNS at h
  split at h
  · cases h; exact ⟨by assumption, rfl⟩
  · cases h
theorem op_isND : OpR X (compareOp .Is) (rP X.w X.K (bR isNS)) := opB_of fun pins s τ H x y v u Q I rx ry F0 M0 H0 F M S sl σ a b c st ha hb e q => by
  obtain ⟨e1, rfl⟩ := isNS_inv e
  have hy : y = .non := by rw [← isNon_rep hb] at e1; exact of_decide_eq_true e1
  subst hy
  refine ofOp op_isN I rx ry (fun Q' h => ⟨rfl, ?_⟩) q
  rw [isNon_rep ha]
  exact h
theorem op_notND : OpR X (compareOp .IsNot) (rP X.w X.K (bR fun a b => (isNS a b).map (!·))) := opB_of fun pins s τ H x y v u Q I rx ry F0 M0 H0 F M S sl σ a b c st ha hb e q => by
  obtain ⟨c', e', rfl⟩ := Option.map_eq_some_iff.mp e
  obtain ⟨e1, rfl⟩ := isNS_inv e'
  have hy : y = .non := by rw [← isNon_rep hb] at e1; exact of_decide_eq_true e1
  subst hy
  refine ofOp op_notN I rx ry (fun Q' h => ⟨rfl, ?_⟩) q
  rw [isNon_rep ha]
  exact h
theorem op_isBD : OpR X (compareOp .Is) (rP X.w X.K (bR isBS)) := opB_of fun pins s τ H x y v u Q I rx ry F0 M0 H0 F M S sl σ a b c st ha hb e q => by
  unfold isBS at e
  split at e
  · cases e
    cases ha.dat.bl_inv
    cases hb.dat.bl_inv
    exact ofOp op_isBl I rx ry (fun Q' h => ⟨_, _, rfl, rfl, by rw [← Bool.beq_eq_decide_eq]; exact h⟩) q
  · cases e
theorem op_notBD : OpR X (compareOp .IsNot) (rP X.w X.K (bR fun a b => (isBS a b).map (!·))) := opB_of fun pins s τ H x y v u Q I rx ry F0 M0 H0 F M S sl σ a b c st ha hb e q => by
  obtain ⟨c', e', rfl⟩ := Option.map_eq_some_iff.mp e
  unfold isBS at e'
  split at e'
  · cases e'
    cases ha.dat.bl_inv
    cases hb.dat.bl_inv
    exact ofOp op_notBl I rx ry (fun Q' h => ⟨_, _, rfl, rfl, by rw [← Bool.beq_eq_decide_eq]; exact h⟩) q
  · cases e'
/-- == of data -/
theorem eq_dat (hu : X.A.units + 64 < cLine) {pins : List (Addr × Obj)} {s : Shared} {τ : L2.St} {F0 H0 F H : Hp} {M0 M : List Addr} {S : Store} {sl : Slots} {σ : L2.St} {x y : V} {v u : Value} {a b : RV} {d d2 : D}
    (I : L2.Inv X pins τ H s) (rx : RelV x v) (ry : RelV y u) (st : Stt X.w X.K F0 M0 H0 F M S sl σ H) (ha : RRV X.w X.K H0 F M H x a) (hb : RRV X.w X.K H0 F M H y b) (e1 : toD a = some d) (e2 : toD b = some d2) (hd : min d.depth d2.depth ≤ 64) :
    (∀ Q : Value → Shared → Prop, Q (.bool (dIs d d2)) s → wpAny (model X.prog X.w) X.A (compareOp .Eq v u) Q X.xe s) ∧ (∀ Q : Value → Shared → Prop, Q (.bool (!dIs d d2)) s → wpAny (model X.prog X.w) X.A (compareOp .NotEq v u) Q X.xe s) := by
  obtain ⟨p1, l1⟩ := toD_rep st.sub ha e1
  obtain ⟨p2, l2⟩ := toD_rep st.sub hb e2
  obtain ⟨as, r1⟩ := Dp.reads I _ _ _ p1 rx
  obtain ⟨bs, r2⟩ := Dp.reads I _ _ _ p2 ry
  exact ⟨fun Q h => SeqAt.compareEq_reads r1 r2 l1 l2 (by omega) h, fun Q h => SeqAt.compareNe_reads r1 r2 l1 l2 (by omega) h⟩
end
end DL

/-! The data layer, part 4: dicts. -/
namespace DL
open PySem PySem.Spec PyProof.Rows L2
section
variable (K : Frg)
/-- a walk over data -/
def YD (F : Hp) (ds : List D) : Nat → Hp → V → Hp → Prop := fun i H v H' => ∃ d, ds[i]? = some d ∧ ((H' = H ∧ Rp K F v d) ∨ ∃ T o x y dx dy, v = .ref T ∧ H T = none ∧ o.dict = none ∧ H' = upd H T (.frz o (.tup [x, y])) ∧ Rp K F x dx ∧ Rp K F y dy ∧ d = .tuple [dx, dy])
def WkD (F : Hp) (J : It) (ds : List D) : Prop := Walk J ds.length (fun H => Sub F H) (YD K F ds) ∧ ds.length ≤ sizeLine
end

/-! ### keys -/
theorem beq_dec {α : Type} [BEq α] [LawfulBEq α] [DecidableEq α] (a b : α) : (a == b) = decide (a = b) := by
  by_cases h : a = b <;> simp [h]
theorem nk_tup {xs : List D} {n : NestedKey} (h : nkey (.tuple xs) = some n) : ∃ ms, nkey.nkeys xs = some ms ∧ n = .tup ms := by
  simp only [nkey, Option.map_eq_some_iff] at h
  obtain ⟨ms, e, rfl⟩ := h
  exact ⟨ms, e, rfl⟩
mutual
theorem nk_eqv : ∀ (a b : D) (m n : NestedKey), nkey a = some m → nkey b = some n → PyData.eqv a b = NestedKey.beq m n
  | .none, .none, m, n, h1, h2 => by cases h1; cases h2; rfl
  | .none, .bool _, m, n, h1, h2 => by cases h1; cases h2; rfl
  | .none, .int _, m, n, h1, h2 => by cases h1; cases h2; rfl
  | .none, .str _, m, n, h1, h2 => by cases h1; cases h2; rfl
  | .none, .tuple _, m, n, h1, h2 => by cases h1; obtain ⟨_, _, rfl⟩ := nk_tup h2; rfl
  | .bool _, .none, m, n, h1, h2 => by cases h1; cases h2; rfl
  | .bool x, .bool y, m, n, h1, h2 => by cases h1; cases h2; cases x <;> cases y <;> rfl
  | .bool x, .int y, m, n, h1, h2 => by cases h1; cases h2; simp only [PyData.eqv, NestedKey.beq]; exact beq_dec _ _
  | .bool _, .str _, m, n, h1, h2 => by cases h1; cases h2; rfl
  | .bool _, .tuple _, m, n, h1, h2 => by cases h1; obtain ⟨_, _, rfl⟩ := nk_tup h2; rfl
  | .int _, .none, m, n, h1, h2 => by cases h1; cases h2; rfl
  | .int x, .bool y, m, n, h1, h2 => by cases h1; cases h2; simp only [PyData.eqv, NestedKey.beq]; exact beq_dec _ _
  | .int x, .int y, m, n, h1, h2 => by cases h1; cases h2; simp only [PyData.eqv, NestedKey.beq]; exact beq_dec _ _
  | .int _, .str _, m, n, h1, h2 => by cases h1; cases h2; rfl
  | .int _, .tuple _, m, n, h1, h2 => by cases h1; obtain ⟨_, _, rfl⟩ := nk_tup h2; rfl
  | .str _, .none, m, n, h1, h2 => by cases h1; cases h2; rfl
  | .str _, .bool _, m, n, h1, h2 => by cases h1; cases h2; rfl
  | .str _, .int _, m, n, h1, h2 => by cases h1; cases h2; rfl
  | .str x, .str y, m, n, h1, h2 => by cases h1; cases h2; simp only [PyData.eqv, NestedKey.beq]; exact beq_dec _ _
  | .str _, .tuple _, m, n, h1, h2 => by cases h1; obtain ⟨_, _, rfl⟩ := nk_tup h2; rfl
  | .tuple _, .none, m, n, h1, h2 => by cases h2; obtain ⟨_, _, rfl⟩ := nk_tup h1; rfl
  | .tuple _, .bool _, m, n, h1, h2 => by cases h2; obtain ⟨_, _, rfl⟩ := nk_tup h1; rfl
  | .tuple _, .int _, m, n, h1, h2 => by cases h2; obtain ⟨_, _, rfl⟩ := nk_tup h1; rfl
  | .tuple _, .str _, m, n, h1, h2 => by cases h2; obtain ⟨_, _, rfl⟩ := nk_tup h1; rfl
  | .tuple xs, .tuple ys, m, n, h1, h2 => by
    obtain ⟨ms, e1, rfl⟩ := nk_tup h1
    obtain ⟨ns, e2, rfl⟩ := nk_tup h2
    simp only [PyData.eqv, NestedKey.beq]
    exact nk_eqvs xs ys ms ns e1 e2
  | .list xs, _, m, n, h1, h2 => by cases h1
  | .dict xs, _, m, n, h1, h2 => by cases h1
  | .none, .list _, m, n, h1, h2 => by cases h2
  | .none, .dict _, m, n, h1, h2 => by cases h2
  | .bool _, .list _, m, n, h1, h2 => by cases h2
  | .bool _, .dict _, m, n, h1, h2 => by cases h2
  | .int _, .list _, m, n, h1, h2 => by cases h2
  | .int _, .dict _, m, n, h1, h2 => by cases h2
  | .str _, .list _, m, n, h1, h2 => by cases h2
  | .str _, .dict _, m, n, h1, h2 => by cases h2
  | .tuple _, .list _, m, n, h1, h2 => by cases h2
  | .tuple _, .dict _, m, n, h1, h2 => by cases h2
theorem nk_eqvs : ∀ (as bs : List D) (ms ns : List NestedKey), nkey.nkeys as = some ms → nkey.nkeys bs = some ns → PyData.eqvAll as bs = NestedKey.beqAll ms ns
  | [], [], ms, ns, h1, h2 => by cases h1; cases h2; rfl
  | [], b :: bs, ms, ns, h1, h2 => by
    cases h1
    simp only [nkey.nkeys] at h2
    split at h2
    · cases h2; rfl
    · cases h2
  | a :: as, [], ms, ns, h1, h2 => by
    cases h2
    simp only [nkey.nkeys] at h1
    split at h1
    · cases h1; rfl
    · cases h1
  | a :: as, b :: bs, ms, ns, h1, h2 => by
    simp only [nkey.nkeys] at h1 h2
    split at h1
    · split at h2
      · cases h1
        cases h2
        simp only [PyData.eqvAll, NestedKey.beqAll]
        rw [nk_eqv a b _ _ (by assumption) (by assumption), nk_eqvs as bs _ _ (by assumption) (by assumption)]
      · cases h2
    · cases h1
end
theorem nk_dec {a b : D} {m n : NestedKey} (h1 : nkey a = some m) (h2 : nkey b = some n) : dIs a b = decide (m = n) := by
  rw [NestedKey.decide_eq]
  exact nk_eqv a b m n h1 h2
theorem str_dec (x y : Str) : dIs (.str x) (.str y) = decide (x = y) := by
  simp only [dIs, PyData.eqv]
  exact beq_dec _ _

/-! ### tables -/
section
variable {κ β : Type} [DecidableEq κ] {R : κ × β → D × D → Prop} {k : κ} {d : D}
theorem look_g (h : ∀ q p, R q p → dIs p.1 d = decide (q.1 = k)) {xs : List (κ × β)} {kvs : List (D × D)} (p : Paired R xs kvs) :
    (∃ q p, xs.find? (fun x => decide (x.1 = k)) = some q ∧ dLook kvs d = some p.2 ∧ R q p) ∨ (xs.find? (fun x => decide (x.1 = k)) = none ∧ dLook kvs d = none) := by
  induction p with
  | nil => exact .inr ⟨rfl, rfl⟩
  | @cons q p xs kvs r t ih =>
    have e := h q p r
    rw [List.find?_cons, dLook, e]
    by_cases hq : q.1 = k
    · simp only [hq, decide_true, if_true]
      exact .inl ⟨q, p, rfl, rfl, r⟩
    · simp only [hq, decide_false, Bool.false_eq_true, if_false]
      exact ih
theorem map_same {f : κ × β → κ × β} (hf : ∀ x : κ × β, x.1 ≠ k → f x = x) : ∀ {xs : List (κ × β)}, k ∉ xs.map (·.1) → xs.map f = xs
  | [], _ => rfl
  | x :: xs, h => by
    rw [List.map_cons, List.mem_cons, not_or] at h
    rw [List.map_cons, hf x (fun e => h.1 e.symm), map_same hf h.2]
theorem put_g {e : D} {f : κ × β → κ × β} {n : κ × β} (h : ∀ q p, R q p → dIs p.1 d = decide (q.1 = k)) (hf : ∀ x : κ × β, x.1 ≠ k → f x = x) (hr : ∀ q p, R q p → q.1 = k → R (f q) (p.1, e)) (hn : R n (d, e))
    {xs : List (κ × β)} {kvs : List (D × D)} (p : Paired R xs kvs) (nd : (xs.map (·.1)).Nodup) : Paired R (if (xs.any fun x => decide (x.1 = k)) = true then xs.map f else xs ++ [n]) (dPut kvs d e) := by
  induction p with
  | nil => exact .cons hn .nil
  | @cons q p xs kvs r t ih =>
    have e' := h q p r
    rw [List.map_cons, List.nodup_cons] at nd
    rw [List.any_cons, dPut, e']
    by_cases hq : q.1 = k
    · simp only [hq, decide_true, Bool.true_or, if_true, List.map_cons]
      rw [map_same (k := k) hf (hq ▸ nd.1)]
      exact .cons (hr q p r hq) t
    · simp only [hq, decide_false, Bool.false_or, Bool.false_eq_true, if_false]
      have ih := ih nd.2
      by_cases hx : (xs.any fun x => decide (x.1 = k)) = true
      · rw [if_pos hx] at ih ⊢
        rw [List.map_cons, hf q hq]
        exact .cons r ih
      · rw [if_neg hx] at ih ⊢
        exact .cons r ih
end
theorem dPut_len (d e : D) : ∀ kvs : List (D × D), (dPut kvs d e).length ≤ kvs.length + 1
  | [] => Nat.le_refl _
  | p :: r => by
    rw [dPut]
    split
    · simp
    · have := dPut_len d e r
      simp only [List.length_cons]
      omega

section
variable {w : World} {K : Frg} {F H : Hp} {a : Addr} {kvs : List (D × D)}
/-- an entry, by what stands in it -/
def EnOk (w : World) (K : Frg) (F : Hp) (e : DictEntry) (p : D × D) : Prop :=
  ∃ k v nk, RelV k e.key ∧ RelV v e.val ∧ Rp K F k p.1 ∧ Rp K F v p.2 ∧ nkey p.1 = some nk ∧ nk.depth ≤ 8 ∧ e.hash = nk.hash w
theorem ents_to : ∀ {kvs : List (D × D)} {es : List DictEntry} {ks vs : List V}, Ents w es ks (kvs.map (·.1)) vs → Rps K F ks (kvs.map (·.1)) → Rps K F vs (kvs.map (·.2)) → Paired (EnOk w K F) es kvs
  | [], _, _, _, h, _, _ => by cases h; exact .nil
  | p :: kvs, _, _, _, h, h1, h2 => by
    cases h with
    | cons a b c d e t =>
      cases h1 with
      | cons q1 r1 =>
        cases h2 with
        | cons q2 r2 => exact .cons ⟨_, _, _, a, b, q1, q2, c, d, e⟩ (ents_to t r1 r2)
theorem ents_of {es : List DictEntry} {kvs : List (D × D)} (h : Paired (EnOk w K F) es kvs) : ∃ ks vs, Ents w es ks (kvs.map (·.1)) vs ∧ Rps K F ks (kvs.map (·.1)) ∧ Rps K F vs (kvs.map (·.2)) := by
  induction h with
  | nil => exact ⟨[], [], .nil, .nil, .nil⟩
  | cons r t ih =>
    obtain ⟨k, v, nk, h1, h2, h3, h4, h5, h6, h7⟩ := r
    obtain ⟨ks, vs, i1, i2, i3⟩ := ih
    exact ⟨k :: ks, v :: vs, .cons h1 h2 h5 h6 h7 i1, .cons h3 i2, .cons h4 i3⟩
/-- the object is a dict with these -/
structure DcOk (w : World) (K : Frg) (F : Hp) (a : Addr) (o : Obj) (kvs : List (D × D)) : Prop where
  ex : o.ExactDict
  sys : (a == sysModules) = false
  len : kvs.length ≤ sizeLine
  nd : (kvs.map fun p => nkey p.1).Nodup
  kind : KindS (kvs.map (·.1)) ∨ KindT (kvs.map (·.1))
  dat : ∃ es ep, o.data = .dict es ep ∧ Paired (EnOk w K F) es.toList kvs
theorem dctAt_iff : DctAt w K F H a kvs ↔ ∃ o, H a = some (exo a o) ∧ DcOk w K F a o kvs := by
  constructor
  · rintro ⟨o, ks, vs, h, ⟨e1, e2, e3, e4, e5, es, ep, e6, e7⟩, r1, r2⟩
    exact ⟨o, h, ⟨e1, e2, by simpa using e3, by simpa [List.map_map, Function.comp_def] using e4, e5, es, ep, e6, ents_to e7 r1 r2⟩⟩
  · rintro ⟨o, h, ⟨e1, e2, e3, e4, e5, es, ep, e6, e7⟩⟩
    obtain ⟨ks, vs, i1, i2, i3⟩ := ents_of e7
    exact ⟨o, ks, vs, h, ⟨e1, e2, by simpa using e3, by simpa [List.map_map, Function.comp_def] using e4, e5, es, ep, e6, i1⟩, i2, i3⟩
theorem DcOk.hash (h : DcOk w K F a o kvs) : ∀ p ∈ kvs, ∃ n, nkey p.1 = some n ∧ n.depth ≤ 8 := by
  obtain ⟨es, ep, _, q⟩ := h.dat
  clear h
  generalize es.toList = l at q
  induction q with
  | nil => intro p hp; cases hp
  | cons r t ih =>
    intro p hp
    rcases List.mem_cons.mp hp with rfl | hp
    · obtain ⟨_, _, nk, _, _, _, _, h5, h6, _⟩ := r
      exact ⟨nk, h5, h6⟩
    · exact ih p hp
/-- a text as a key -/
def KeyS (x : Str) (d : D) : Prop := d = .str x ∧ PyData.strOk x = true ∧ x.length ≤ sizeLine
/-- an entry of the library's list and ours -/
def PrS (K : Frg) (F : Hp) (q : Str × Value) (p : D × D) : Prop := KeyS q.1 p.1 ∧ ∃ v, RelV v q.2 ∧ Rp K F v p.2
def PrT (K : Frg) (F : Hp) (q : NestedKey × Addr × Value) (p : D × D) : Prop := nkey p.1 = some q.1 ∧ q.1.depth ≤ 8 ∧ Rp K F (.ref q.2.1) p.1 ∧ (∃ ds, p.1 = .tuple ds) ∧ ∃ v, RelV v q.2.2 ∧ Rp K F v p.2
theorem strs_to {P : Program} : ∀ {es : List DictEntry} {kvs : List (D × D)}, KindS (kvs.map (·.1)) → Paired (EnOk w K F) es kvs →
    ∃ vs : List (Str × Value), Pairs (PySem.strKind P w) es vs ∧ (∀ e ∈ es, ∃ k, (PySem.strKind P w).is k e.key = true ∧ e.hash = (PySem.strKind P w).hash k) ∧ Paired (PrS K F) vs kvs
  | _, _, _, .nil => ⟨[], .nil, (fun _ h => nomatch h), .nil⟩
  | _, _, hk, .cons r t => by
    obtain ⟨vs, i1, i2, i3⟩ := strs_to (P := P) (fun d hd => hk d (by rw [List.map_cons]; exact List.mem_cons_of_mem _ hd)) t
    obtain ⟨x, ex⟩ := hk _ (by rw [List.map_cons]; exact List.mem_cons_self)
    obtain ⟨k, v, nk, h1, h2, h3, h4, h5, h6, h7⟩ := r
    rw [ex] at h3 h5
    obtain ⟨rfl, o, z⟩ := h3.str_inv
    cases h5
    obtain ⟨t, e⟩ := h1
    have hi : (PySem.strKind P w).is x (.str x t) = true := by
      show Value.isStrOf x (.str x t) = true
      simp [Value.isStrOf]
    refine ⟨(x, _) :: vs, .cons (by rw [e]; exact hi) rfl i1, fun e' he => ?_, .cons ⟨⟨ex, o, z⟩, v, h2, h4⟩ i3⟩
    rcases List.mem_cons.mp he with rfl | he
    · exact ⟨x, by rw [e]; exact hi, h7⟩
    · exact i2 e' he
theorem entry_is {P : Program} {e : DictEntry} {b : Addr} {nk : NestedKey} (h1 : RelV (.ref b) e.key) (h7 : e.hash = nk.hash w) : e = entryOfKey (nestedKind P w) (nk, b, e.val) := by
  obtain ⟨eh, ek, ev⟩ := e
  have e1 : ek = .ref b := h1
  have h7 : eh = nk.hash w := h7
  subst e1 h7
  rfl
theorem tups_to {P : Program} : ∀ {es : List DictEntry} {kvs : List (D × D)}, KindT (kvs.map (·.1)) → Paired (EnOk w K F) es kvs →
    ∃ xs : List (NestedKey × Addr × Value), es = xs.map (entryOfKey (nestedKind P w)) ∧ Paired (PrT K F) xs kvs
  | _, _, _, .nil => ⟨[], rfl, .nil⟩
  | _, _, hk, .cons r t => by
    obtain ⟨xs, i1, i2⟩ := tups_to (P := P) (fun d hd => hk d (by rw [List.map_cons]; exact List.mem_cons_of_mem _ hd)) t
    obtain ⟨ds, ex⟩ := hk _ (by rw [List.map_cons]; exact List.mem_cons_self)
    obtain ⟨k, v, nk, h1, h2, h3, h4, h5, h6, h7⟩ := r
    rw [ex] at h3
    obtain ⟨b, ys, rfl, _, _, _⟩ := h3.tup_inv
    refine ⟨(nk, b, DictEntry.val _) :: xs, ?_, .cons ⟨h5, h6, by rw [ex]; exact h3, ⟨ds, ex⟩, v, h2, h4⟩ i2⟩
    rw [List.map_cons, ← i1]
    congr 1
    exact entry_is h1 h7
theorem strs_of {P : Program} {es : List DictEntry} {vs : List (Str × Value)} {kvs : List (D × D)} (hp : Pairs (PySem.strKind P w) es vs) (hk : ∀ e ∈ es, ∃ k, (PySem.strKind P w).is k e.key = true ∧ e.hash = (PySem.strKind P w).hash k) (q : Paired (PrS K F) vs kvs) :
    Paired (EnOk w K F) es kvs ∧ KindS (kvs.map (·.1)) := by
  induction hp generalizing kvs with
  | nil => cases q; exact ⟨.nil, fun _ h => nomatch h⟩
  | @cons e kv es vs h1 h2 t ih =>
    cases q with
    | cons r q =>
      obtain ⟨i1, i2⟩ := ih (fun e he => hk e (List.mem_cons_of_mem _ he)) q
      obtain ⟨⟨ex, o, z⟩, v, rv, rp⟩ := r
      obtain ⟨k, g1, g2⟩ := hk e List.mem_cons_self
      have : k = kv.1 := (PySem.strKind P w).inj _ _ _ g1 h1
      subst this
      obtain ⟨t, et⟩ := Value.isStrOf_shape g1
      refine ⟨.cons ⟨.str kv.1, v, .text kv.1, ⟨t, et⟩, by rw [h2]; exact rv, by rw [ex]; exact .str o z, rp, by rw [ex]; rfl, Nat.zero_le _, g2⟩ i1, fun d hd => ?_⟩
      rw [List.map_cons, List.mem_cons] at hd
      rcases hd with rfl | hd
      · exact ⟨_, ex⟩
      · exact i2 d hd
theorem tups_of {P : Program} {xs : List (NestedKey × Addr × Value)} {kvs : List (D × D)} (q : Paired (PrT K F) xs kvs) : Paired (EnOk w K F) (xs.map (entryOfKey (nestedKind P w))) kvs ∧ KindT (kvs.map (·.1)) := by
  induction q with
  | nil => exact ⟨.nil, fun _ h => nomatch h⟩
  | cons r t ih =>
    obtain ⟨h1, h2, h3, h4, v, rv, rp⟩ := r
    refine ⟨.cons ⟨.ref _, v, _, rfl, rv, h3, rp, h1, h2, rfl⟩ ih.1, fun d hd => ?_⟩
    rw [List.map_cons, List.mem_cons] at hd
    rcases hd with rfl | hd
    · exact h4
    · exact ih.2 d hd
theorem nds_of {β : Type} {R : Str × β → D × D → Prop} (hR : ∀ q p, R q p → p.1 = .str q.1) {xs : List (Str × β)} {kvs : List (D × D)} (q : Paired R xs kvs) : kvs.map (fun p => nkey p.1) = (xs.map (·.1)).map fun x => some (NestedKey.text x) := by
  induction q with
  | nil => rfl
  | cons r t ih => rw [List.map_cons, List.map_cons, List.map_cons, ih, hR _ _ r]; rfl
theorem ndt_of {β : Type} {R : NestedKey × β → D × D → Prop} (hR : ∀ q p, R q p → nkey p.1 = some q.1) {xs : List (NestedKey × β)} {kvs : List (D × D)} (q : Paired R xs kvs) : kvs.map (fun p => nkey p.1) = (xs.map (·.1)).map some := by
  induction q with
  | nil => rfl
  | cons r t ih => rw [List.map_cons, List.map_cons, List.map_cons, ih, hR _ _ r]
theorem nodup_map_iff {α β : Type} {f : α → β} (hf : ∀ x y, f x = f y → x = y) {l : List α} : (l.map f).Nodup ↔ l.Nodup := by
  unfold List.Nodup
  rw [List.pairwise_map]
  exact ⟨fun h => h.imp fun n e => n (congrArg f e), fun h => h.imp fun n e => n (hf _ _ e)⟩
theorem PrS.key {q : Str × Value} {p : D × D} (h : PrS K F q p) : p.1 = .str q.1 := h.1.1
theorem PrT.key {q : NestedKey × Addr × Value} {p : D × D} (h : PrT K F q p) : nkey p.1 = some q.1 := h.1
theorem PrS.is {q : Str × Value} {p : D × D} (h : PrS K F q p) (x : Str) : dIs p.1 (.str x) = decide (q.1 = x) := by rw [h.key, str_dec]
theorem PrT.is {q : NestedKey × Addr × Value} {p : D × D} (h : PrT K F q p) {d : D} {n : NestedKey} (e : nkey d = some n) : dIs p.1 d = decide (q.1 = n) := nk_dec h.key e
/-- a dict of texts, as the library has it -/
theorem DcOk.strs {P : Program} {o : Obj} {h : Heap} (g : h.get? a = some o) (x : DcOk w K F a o kvs) (k : KindS (kvs.map (·.1))) : ∃ vs : List (Str × Value), h.DictOf (PySem.strKind P w) a vs ∧ Paired (PrS K F) vs kvs := by
  obtain ⟨es, ep, e, q⟩ := x.dat
  obtain ⟨vs, h1, h2, h3⟩ := strs_to (P := P) k q
  refine ⟨vs, ⟨o, es, ep, g, x.ex, e, fun e he => h2 e (by simpa using he), h1, ?_⟩, h3⟩
  have := x.nd
  rw [nds_of (fun _ _ => PrS.key) h3] at this
  exact (nodup_map_iff (fun x y e => by cases e; rfl)).mp this
end
section
variable {X : Cx} {pins : List (Addr × Obj)} {s : Shared} {τ : L2.St} {F H : Hp}
mutual
theorem nis_of (I : L2.Inv X pins τ H s) (sb : Sub F H) : ∀ (d : D) (v : V) (u : Value) (nk : NestedKey), Rp X.K F v d → RelV v u → nkey d = some nk → NestedIs s.heap nk u
  | .none, _, _, _, h, r, e => by cases h; cases r; cases e; exact .none
  | .bool b, _, _, _, h, r, e => by cases h; cases r; cases e; exact .bool rfl
  | .int i, _, _, _, h, r, e => by cases h; obtain ⟨t, rfl⟩ := r; cases e; exact .int _ _
  | .str x, _, _, _, h, r, e => by cases h; obtain ⟨t, rfl⟩ := r; cases e; exact .text _ _
  | .tuple ds, _, _, _, h, r, e => by
    cases h with
    | tup q z rr =>
      cases r
      obtain ⟨its, rv, ⟨o, ho, hc, n, hd⟩, _⟩ := I.tuple (SqT.sub sb q.sq)
      rw [nkey] at e
      obtain ⟨ks, e1, rfl⟩ := Option.map_eq_some_iff.mp e
      exact .tup ho hc hd (nis_all I sb ds _ _ ks rr (by simpa using rv) e1)
  | .list _, _, _, _, h, r, e => by cases e
  | .dict _, _, _, _, h, r, e => by cases e
theorem nis_all (I : L2.Inv X pins τ H s) (sb : Sub F H) : ∀ (ds : List D) (vs : List V) (us : List Value) (ks : List NestedKey), Rps X.K F vs ds → Vals vs us → nkey.nkeys ds = some ks → NestedAll s.heap ks us
  | [], _, _, _, h, r, e => by cases h; cases r; cases e; exact .nil
  | d :: ds, _, _, _, h, r, e => by
    cases h with
    | cons h1 h2 =>
      cases r with
      | cons r1 r2 =>
        simp only [nkey.nkeys] at e
        split at e
        · cases e
          exact .cons (nis_of I sb d _ _ _ h1 r1 (by assumption)) (nis_all I sb ds _ _ _ h2 r2 (by assumption))
        · cases e
end
theorem DcOk.tups {a : Addr} {o : Obj} {kvs : List (D × D)} (I : L2.Inv X pins τ H s) (sb : Sub F H) (g : s.heap.get? a = some o) (x : DcOk X.w X.K F a o kvs) (k : KindT (kvs.map (·.1))) :
    ∃ xs : List (NestedKey × Addr × Value), s.heap.DictOfH (nestedKind X.prog X.w) a xs ∧ Paired (PrT X.K F) xs kvs := by
  obtain ⟨es, ep, e, q⟩ := x.dat
  obtain ⟨xs, h1, h2⟩ := tups_to (P := X.prog) k q
  refine ⟨xs, ⟨o, es, ep, g, x.ex, e, h1, fun y hy => ?_, ?_⟩, h2⟩
  · have : ∀ {xs : List (NestedKey × Addr × Value)} {kvs : List (D × D)}, Paired (PrT X.K F) xs kvs → ∀ y ∈ xs, (nestedKind X.prog X.w).is s.heap y.1 y.2.1 := by
      intro xs kvs p
      induction p with
      | nil => intro y hy; cases hy
      | cons r t ih =>
        intro y hy
        rcases List.mem_cons.mp hy with rfl | hy
        · exact ⟨nis_of I sb _ _ _ _ r.2.2.1 rfl r.1, r.2.1⟩
        · exact ih y hy
    exact this h2 y hy
  · have := x.nd
    rw [ndt_of (fun _ _ => PrT.key) h2] at this
    exact (nodup_map_iff (fun x y e => by cases e; rfl)).mp this
end
end DL

/-! The data layer, part 4: dicts, what is done with them. -/
namespace DL
open PySem PySem.Spec PyProof.Rows L2
section
variable {kvs : List (D × D)} {d : D}
theorem keyFits_nk (h : keyFits kvs d = true) : ∃ n, nkey d = some n ∧ n.depth ≤ 8 := by
  unfold keyFits at h
  rw [Bool.and_eq_true] at h
  obtain ⟨_, h⟩ := h
  split at h
  · exact ⟨_, by assumption, of_decide_eq_true h⟩
  · cases h
theorem sameKind_inv {a b : D} (h : sameKind a b = true) : (∃ x y, a = .str x ∧ b = .str y) ∨ ∃ x y, a = .tuple x ∧ b = .tuple y := by
  unfold sameKind at h
  split at h
  · exact .inl ⟨_, _, rfl, rfl⟩
  · exact .inr ⟨_, _, rfl, rfl⟩
  · cases h
theorem keyFits_kind (k : KindS (kvs.map (·.1)) ∨ KindT (kvs.map (·.1))) (h : keyFits kvs d = true) : (∃ x, d = .str x ∧ KindS (kvs.map (·.1))) ∨ ∃ ds, d = .tuple ds ∧ KindT (kvs.map (·.1)) := by
  unfold keyFits at h
  rw [Bool.and_eq_true] at h
  obtain ⟨h, _⟩ := h
  cases kvs with
  | nil =>
    rcases sameKind_inv h with ⟨x, _, rfl, _⟩ | ⟨x, _, rfl, _⟩
    · exact .inl ⟨x, rfl, fun _ h => nomatch h⟩
    · exact .inr ⟨x, rfl, fun _ h => nomatch h⟩
  | cons p r =>
    rcases sameKind_inv h with ⟨x, y, e, rfl⟩ | ⟨x, y, e, rfl⟩
    · refine .inl ⟨y, rfl, ?_⟩
      rcases k with k | k
      · exact k
      · obtain ⟨ds, e2⟩ := k p.1 (by simp)
        rw [e] at e2; cases e2
    · refine .inr ⟨y, rfl, ?_⟩
      rcases k with k | k
      · obtain ⟨ds, e2⟩ := k p.1 (by simp)
        rw [e] at e2; cases e2
      · exact k
end
section
variable {X : Cx} {pins : List (Addr × Obj)} {s : Shared} {τ : L2.St} {F0 H0 F H : Hp} {M0 M : List Addr} {S : Store} {sl : Slots} {σ : L2.St} {x y : V} {v u : Value} {kvs : List (D × D)} {a : Addr} {d : D} {o : Obj}
theorem got (I : L2.Inv X pins τ H s) (h : H a = some (exo a o)) : s.heap.get? a = some o := (I.hok a _ h).1
/-- what is asked of a key: its value in the library's two kinds of dict -/
theorem dct_at (I : L2.Inv X pins τ H s) (rx : RelV x v) (sb : Sub F H) (hx : Rp X.K F x d) (h : DctAt X.w X.K F H a kvs) (hk : keyFits kvs d = true) :
    (a == sysModules) = false ∧
    ((∃ k vs, (PySem.strKind X.prog X.w).is k v = true ∧ s.heap.DictOf (PySem.strKind X.prog X.w) a vs ∧ Paired (PrS X.K F) vs kvs ∧ d = .str k ∧ KindS (kvs.map (·.1)) ∧ KeyS k d) ∨
     (∃ k b xs, v = .ref b ∧ x = .ref b ∧ (nestedKind X.prog X.w).is s.heap k b ∧ s.heap.DictOfH (nestedKind X.prog X.w) a xs ∧ Paired (PrT X.K F) xs kvs ∧ nkey d = some k ∧ KindT (kvs.map (·.1)) ∧ ∃ ds, d = .tuple ds)) := by
  obtain ⟨o, h, ok⟩ := dctAt_iff.mp h
  refine ⟨ok.sys, ?_⟩
  obtain ⟨n, hn, hd⟩ := keyFits_nk hk
  rcases keyFits_kind ok.kind hk with ⟨y, rfl, k⟩ | ⟨ds, rfl, k⟩
  · obtain ⟨rfl, o2, z⟩ := hx.str_inv
    obtain ⟨t, rfl⟩ := rx
    obtain ⟨vs, d1, d2⟩ := ok.strs (P := X.prog) (got I h) k
    exact .inl ⟨y, vs, by show Value.isStrOf y (.str y t) = true; simp [Value.isStrOf], d1, d2, rfl, k, rfl, o2, z⟩
  · obtain ⟨b, xs, rfl, _, _, _⟩ := hx.tup_inv
    cases rx
    obtain ⟨ys, d1, d2⟩ := ok.tups I sb (got I h) k
    exact .inr ⟨n, b, ys, rfl, rfl, ⟨nis_of I sb _ _ _ _ hx rfl hn, hd⟩, d1, d2, hn, k, ds, rfl⟩
theorem look_s {vs : List (Str × Value)} (p : Paired (PrS X.K F) vs kvs) (k : Str) : (∃ u e v, valueAt vs k = some u ∧ dLook kvs (.str k) = some e ∧ RelV v u ∧ Rp X.K F v e) ∨ (valueAt vs k = none ∧ dLook kvs (.str k) = none) := by
  rcases look_g (k := k) (d := .str k) (fun q p r => PrS.is r k) p with ⟨q, p, e1, e2, r⟩ | ⟨e1, e2⟩
  · obtain ⟨_, v, h1, h2⟩ := r
    exact .inl ⟨q.2, p.2, v, by unfold valueAt; rw [e1]; rfl, e2, h1, h2⟩
  · exact .inr ⟨by unfold valueAt; rw [e1]; rfl, e2⟩
theorem look_t {xs : List (NestedKey × Addr × Value)} (p : Paired (PrT X.K F) xs kvs) {k : NestedKey} (hk : nkey d = some k) : (∃ q e v, atKey xs k = some q ∧ dLook kvs d = some e ∧ RelV v q.2 ∧ Rp X.K F v e) ∨ (atKey xs k = none ∧ dLook kvs d = none) := by
  rcases look_g (k := k) (d := d) (fun q p r => PrT.is r hk) p with ⟨q, p, e1, e2, r⟩ | ⟨e1, e2⟩
  · obtain ⟨_, _, _, _, v, h1, h2⟩ := r
    exact .inl ⟨q.2, p.2, v, by unfold atKey; rw [e1]; rfl, e2, h1, h2⟩
  · exact .inr ⟨by unfold atKey; rw [e1]; rfl, e2⟩
theorem in_dct (hu : X.A.units + 64 < cLine) (I : L2.Inv X pins τ H s) (rx : RelV x v) (sb : Sub F H) (hx : Rp X.K F x d) (h : DctAt X.w X.K F H a kvs) (hk : keyFits kvs d = true) {Q : Value → Shared → Prop}
    (q : ∀ s', L2.Inv X pins τ H s' → Q (.bool (dLook kvs d).isSome) s') : wpAny (model X.prog X.w) X.A (compareOp .In v (.ref a)) Q X.xe s := by
  obtain ⟨sys, ⟨k, vs, hi, dd, pp, rfl, _, _⟩ | ⟨k, b, xs, rfl, _, hi, dd, pp, hn, _, _⟩⟩ := dct_at I rx sb hx h hk
  · refine wpAny_in_of hi sys dd.mapOf ?_
    have e : (valueAt vs k).isSome = (dLook kvs (.str k)).isSome := by
      rcases look_s pp k with ⟨u, e, v, e1, e2, _⟩ | ⟨e1, e2⟩ <;> rw [e1, e2] <;> rfl
    rw [e]
    exact q _ (I.tok _)
  · refine wpAny_in_heap (by show X.A.units + 1 + 8 < cLine; omega) hi sys dd ?_
    have e : (atKey xs k).isSome = (dLook kvs d).isSome := by
      rcases look_t pp hn with ⟨u, e, v, e1, e2, _⟩ | ⟨e1, e2⟩ <;> rw [e1, e2] <;> rfl
    rw [e]
    exact q _ (I.tok _)
theorem notin_dct (hu : X.A.units + 64 < cLine) (I : L2.Inv X pins τ H s) (rx : RelV x v) (sb : Sub F H) (hx : Rp X.K F x d) (h : DctAt X.w X.K F H a kvs) (hk : keyFits kvs d = true) {Q : Value → Shared → Prop}
    (q : ∀ s', L2.Inv X pins τ H s' → Q (.bool (!(dLook kvs d).isSome)) s') : wpAny (model X.prog X.w) X.A (compareOp .NotIn v (.ref a)) Q X.xe s := by
  obtain ⟨sys, ⟨k, vs, hi, dd, pp, rfl, _, _⟩ | ⟨k, b, xs, rfl, _, hi, dd, pp, hn, _, _⟩⟩ := dct_at I rx sb hx h hk
  · refine wpAny_notIn_of hi sys dd.mapOf ?_
    have e : (valueAt vs k).isSome = (dLook kvs (.str k)).isSome := by
      rcases look_s pp k with ⟨u, e, v, e1, e2, _⟩ | ⟨e1, e2⟩ <;> rw [e1, e2] <;> rfl
    rw [e]
    exact q _ (I.tok _)
  · refine wpAny_notIn_heap (by show X.A.units + 1 + 8 < cLine; omega) hi sys dd ?_
    have e : (atKey xs k).isSome = (dLook kvs d).isSome := by
      rcases look_t pp hn with ⟨u, e, v, e1, e2, _⟩ | ⟨e1, e2⟩ <;> rw [e1, e2] <;> rfl
    rw [e]
    exact q _ (I.tok _)
theorem getItem_dct (hu : X.A.units + 64 < cLine) (I : L2.Inv X pins τ H s) (ry : RelV y u) (sb : Sub F H) (hy : Rp X.K F y d) (h : DctAt X.w X.K F H a kvs) (hk : keyFits kvs d = true) {e : D} (hv : dLook kvs d = some e) {Q : VK}
    (q : ∀ z, Rp X.K F z e → Q z H) : wpAny (model X.prog X.w) X.A (getItem (.ref a) u) (EP X pins τ Q) X.xe s := by
  obtain ⟨sys, ⟨k, vs, hi, dd, pp, rfl, _, _⟩ | ⟨k, b, xs, rfl, _, hi, dd, pp, hn, _, _⟩⟩ := dct_at I ry sb hy h hk
  · rcases look_s pp k with ⟨w', e', z, e1, e2, r1, r2⟩ | ⟨e1, e2⟩
    · rw [hv] at e2; cases e2
      exact wpAny_getItem_of hi dd.mapOf e1 ⟨z, H, I.tok _, r1, q z r2⟩
    · rw [hv] at e2; cases e2
  · rcases look_t pp hn with ⟨w', e', z, e1, e2, r1, r2⟩ | ⟨e1, e2⟩
    · rw [hv] at e2; cases e2
      exact wpAny_getItem_heap (by show X.A.units + 1 + 8 < cLine; omega) hi dd e1 ⟨z, H, I.tok _, r1, q z r2⟩
    · rw [hv] at e2; cases e2
theorem dct_ty (I : L2.Inv X pins τ H s) (h : DctAt X.w X.K F H a kvs) : s.TypeIs (.ref a) "dict" := by
  obtain ⟨o, h, ok⟩ := dctAt_iff.mp h
  exact ⟨o, got I h, ok.ex.1⟩
/-- d[k] -/
theorem ix_dct (hu : X.A.units + 64 < cLine) (I : L2.Inv X pins τ H s) (ry : RelV y u) (sb : Sub F H) (hy : Rp X.K F y d) (h : DctAt X.w X.K F H a kvs) (hk : keyFits kvs d = true) {e : D} (hv : dLook kvs d = some e) {value slice : Expr} {Q : VK}
    (q : ∀ z, Rp X.K F z e → Q z H) (hs : subscripted slice false (.ref a) u = operate [.ref a, u] (getItem (.ref a) u)) : wpAny (model X.prog X.w) X.A (subscriptTail value slice (.ref a) u) (EP X pins τ Q) X.xe s := by
  have hT := dct_ty I h
  unfold subscriptTail
  refine wpAny_bind ?_
  rw [getitemInPython_of_ne hT.not_modules]
  refine wpAny_bind (wpAny_specialOf hT PySem.F.slot_dict_getitem.lookup ?_)
  have fin : wpAny (model X.prog X.w) X.A (subscripted slice false (.ref a) u) (fun r s₃ => wpAny (model X.prog X.w) X.A (letTemporaryGo value (.ref a) r >>= fun _ => pure r) (EP X pins τ Q) X.xe s₃) X.xe s := by
    rw [hs]
    exact wpAny_operating (wpAny_mono (getItem_dct hu I ry sb hy h hk hv q) (fun r s₃ h₃ => wpAny_bind (wpAny_letTemporaryGo (wpAny_pure h₃))) fun _ _ x => x)
  first
    | exact wpAny_pure (wpAny_bind fin)
    | exact wpAny_bind (wpAny_pure (wpAny_bind fin))
    | exact wpAny_bind fin
theorem leafKeys_kind (k : KindS (kvs.map (·.1)) ∨ KindT (kvs.map (·.1))) (h : leafKeys kvs = true) : KindS (kvs.map (·.1)) := by
  cases kvs with
  | nil => exact fun _ h => nomatch h
  | cons p r =>
    rcases k with k | k
    · exact k
    · obtain ⟨ds, e⟩ := k p.1 (by simp)
      obtain ⟨p1, p2⟩ := p
      have e : p1 = .tuple ds := e
      subst e
      cases h
theorem eq_dct0 (hu : X.A.units + 64 < cLine) {b : Addr} (I : L2.Inv X pins τ H s) (sb : Sub F H) (h : DctAt X.w X.K F H a kvs) (h2 : DctAt X.w X.K F H b []) (hk : leafKeys kvs = true) {Q : Value → Shared → Prop}
    (q : ∀ s', L2.Inv X pins τ H s' → Q (.bool kvs.isEmpty) s') : wpAny (model X.prog X.w) X.A (compareOp .Eq (.ref a) (.ref b)) Q X.xe s := by
  obtain ⟨o, h, ok⟩ := dctAt_iff.mp h
  obtain ⟨o2, h2, ok2⟩ := dctAt_iff.mp h2
  obtain ⟨vs, d1, p1⟩ := ok.strs (P := X.prog) (got I h) (leafKeys_kind ok.kind hk)
  obtain ⟨ws, d2, p2⟩ := ok2.strs (P := X.prog) (got I h2) (fun _ h => nomatch h)
  cases p2
  refine PySem.W.keq_eq (r := true) ok.sys ok2.sys d1 d2 (by omega) (fun e => ?_) ?_
  · have : vs = [] := List.length_eq_zero_iff.mp e
    subst this
    exact .nil
  · have e : (vs.length == ([] : List (Str × Value)).length && true) = kvs.isEmpty := by
      cases p1 <;> rfl
    rw [e]
    exact q _ I
theorem ne_dct0 (hu : X.A.units + 64 < cLine) {b : Addr} (I : L2.Inv X pins τ H s) (sb : Sub F H) (h : DctAt X.w X.K F H a kvs) (h2 : DctAt X.w X.K F H b []) (hk : leafKeys kvs = true) {Q : Value → Shared → Prop}
    (q : ∀ s', L2.Inv X pins τ H s' → Q (.bool (!kvs.isEmpty)) s') : wpAny (model X.prog X.w) X.A (compareOp .NotEq (.ref a) (.ref b)) Q X.xe s := by
  obtain ⟨o, h, ok⟩ := dctAt_iff.mp h
  obtain ⟨o2, h2, ok2⟩ := dctAt_iff.mp h2
  obtain ⟨vs, d1, p1⟩ := ok.strs (P := X.prog) (got I h) (leafKeys_kind ok.kind hk)
  obtain ⟨ws, d2, p2⟩ := ok2.strs (P := X.prog) (got I h2) (fun _ h => nomatch h)
  cases p2
  refine PySem.W.keq_ne (r := true) ok.sys ok2.sys d1 d2 (by omega) (fun e => ?_) ?_
  · have : vs = [] := List.length_eq_zero_iff.mp e
    subst this
    exact .nil
  · have e : (vs.length == ([] : List (Str × Value)).length && true) = kvs.isEmpty := by
      cases p1 <;> rfl
    rw [e]
    exact q _ I
theorem len_dct (I : L2.Inv X pins τ H s) (sb : Sub F H) (h : DctAt X.w X.K F H a kvs) {Q : VK} (q : Q (.int kvs.length) H) : wpAny (model X.prog X.w) X.A (call (.builtin "len") [.ref a]) (EP X pins τ Q) X.xe s := by
  obtain ⟨o, h, ok⟩ := dctAt_iff.mp h
  have hz := ok.len
  rw [sizeLine_eq] at hz
  rcases ok.kind with k | k
  · obtain ⟨vs, d1, p1⟩ := ok.strs (P := X.prog) (got I h) k
    have hl := p1.length
    refine call_len_dict ok.sys d1 (by omega) ?_
    rw [hl]
    exact ⟨.int _, H, I.tok _, ⟨_, rfl⟩, q⟩
  · obtain ⟨xs, d1, p1⟩ := ok.tups I sb (got I h) k
    have hl := p1.length
    have hm : s.heap.DictKeyed (nestedKind X.prog X.w) a (pairsH xs) := ⟨xs, d1, rfl⟩
    refine Calls.call_function_entry kind_len plain_len entry_len (args_len1 _) ?_
    unfold Builtin.«len»
    refine wpAny_bind (m := oneArg "len" _) (wpAny_pure ?_)
    refine wpAny_bind (m := callSpecial? (.ref a) (Str.ofString "__len__")) (wpAny_callSpecial?_slot (name := Str.ofString "__len__") d1.typeIs PySem.F.slot_dict_len (len_keyed ok.sys hm ?_))
    refine wpAny_bind (wpAny_holding (wpAny_pure ?_))
    refine wpAny_bind (wpAny_letGo ?_)
    have e : (pairsH xs).length = kvs.length := by rw [pairsH_length, hl]
    rw [e]
    show wpAny _ _ (if ((kvs.length : Nat) : Int) < 0 then _ else _) _ _ _
    rw [if_neg (by omega)]
    show wpAny _ _ (if ((kvs.length : Nat) : Int) ≥ 2 ^ 63 then _ else _) _ _ _
    rw [if_neg (by omega)]
    exact wpAny_bind (wpAny_mkInt (wpAny_pure ⟨_, rfl, .int _, H, I.tok _, ⟨_, rfl⟩, q⟩))
/-- d[k] = v -/
def rSetK (w : World) (K : Frg) : V → V → V → Hp → (Hp → Prop) → Prop := fun o i v H Q => ∃ (F : Hp) (a : Addr) (kvs : List (D × D)) (d e : D), o = .ref a ∧ Sub F H ∧ F a = none ∧ Rp K F i d ∧ Rp K F v e ∧ DctAt w K F H a kvs ∧ keyFits kvs d = true ∧ kvs.length < szL ∧
  ∀ u, DctAt w K F (upd H a u) a (dPut kvs d e) → Q (upd H a u)
theorem setAt_dct (hu : X.A.units + 100 < cLine) {e : D} {z : V} {r : Value} (I : L2.Inv X pins τ H s) (ry : RelV y u) (rz : RelV z r) (sb : Sub F H) (hy : Rp X.K F y d) (hz : Rp X.K F z e) (h : DctAt X.w X.K F H a kvs) (hk : keyFits kvs d = true) (hl : kvs.length < szL) {Q : Hp → Prop}
    (q : ∀ u, DctAt X.w X.K F (upd H a u) a (dPut kvs d e) → Q (upd H a u)) : wpAny (model X.prog X.w) X.A (setItem (.ref a) u r) (fun _ s' => ∃ H', L2.Inv X pins τ H' s' ∧ Q H') X.xe s := by
  obtain ⟨o, h1, ok⟩ := dctAt_iff.mp h
  have hz1 := ok.len
  rw [szL_eq] at hl
  have hn : (dPut kvs d e).length ≤ sizeLine := by have := dPut_len d e kvs; omega
  have fin : ∀ (h' : Heap) (t : Nat) (o' : Obj), Heap.SameBut a s.heap h' → h'.get? a = some o' → DcOk X.w X.K F a o' (dPut kvs d e) → ∃ H', L2.Inv X pins τ H' { s with heap := h', toks := t } ∧ Q H' := by
    intro h' t o' hs ho ok'
    exact ⟨upd H a (exo a o'), L2.Inv.write (x := a) (e := a) I (by rw [h1]; trivial) (.inl rfl) (fun b q hb z => (hs.2 b hb).trans z) ⟨_, ho⟩ ⟨ho, ⟨_, ho⟩, fun h1 h2 q k => k _ q⟩, q _ (dctAt_iff.mpr ⟨o', upd_same, ok'⟩)⟩
  obtain ⟨sys, ⟨k, vs, hi, dd, pp, rfl, ks, hks⟩ | ⟨k, b, xs, rfl, rfl, hi, dd, pp, hnk, kt, ds, hds⟩⟩ := dct_at I ry sb hy h hk
  · refine wpAny_setItem_pairs (hsz := by rw [pp.length]; exact hz1) hi dd fun h' dd' hs => ?_
    have pp' : Paired (PrS X.K F) (stored vs k r) (dPut kvs (.str k) e) := by
      obtain ⟨_, _, _, _, _, _, _, _, nd⟩ := dd
      refine put_g (R := PrS X.K F) (k := k) (d := .str k) (f := fun kv => if kv.1 = k then (kv.1, r) else kv) (n := (k, r)) (fun q p r => PrS.is r k) (fun x hx => if_neg hx) (fun q p hq e => ?_) ⟨hks, z, rz, hz⟩ pp nd
      rw [if_pos e]
      exact ⟨hq.1, z, rz, hz⟩
    obtain ⟨o', es, ep, g, ex, dt, ko, pr, nd⟩ := dd'
    obtain ⟨w1, w2⟩ := strs_of pr (fun e he => ko e (by simpa using he)) pp'
    refine fin h' _ o' hs g ⟨ex, sys, hn, ?_, .inl w2, es, ep, dt, w1⟩
    rw [nds_of (fun _ _ => PrS.key) pp']
    exact (nodup_map_iff (fun x y e => by cases e; rfl)).mpr nd
  · refine wpAny_setItem_heap (hsz := by rw [pp.length]; exact hz1) (by show X.A.units + 1 + 8 < cLine; omega) hi dd fun h' dd' hs => ?_
    have pp' : Paired (PrT X.K F) (storedH xs k b r) (dPut kvs d e) := by
      obtain ⟨_, _, _, _, _, _, _, _, nd⟩ := dd
      have hput := put_g (R := PrT X.K F) (k := k) (d := d) (e := e) (f := putAt k r) (n := (k, b, r)) (fun q p r => PrT.is r hnk) (fun x hx => if_neg hx) (fun q p hq e => ?_) ⟨hnk, hi.2, hy, ⟨ds, hds⟩, z, rz, hz⟩ pp nd
      · unfold storedH
        have e1 : (atKey xs k).isSome = xs.any fun x => decide (x.1 = k) := by
          unfold atKey
          rw [Option.isSome_map, List.isSome_find?]
        rw [e1]
        exact hput
      · unfold putAt
        rw [if_pos e]
        exact ⟨hq.1, hq.2.1, hq.2.2.1, hq.2.2.2.1, z, rz, hz⟩
    obtain ⟨o', es, ep, g, ex, dt, he, _, nd⟩ := dd'
    obtain ⟨w1, w2⟩ := tups_of (P := X.prog) (w := X.w) pp'
    refine fin h' _ o' hs g ⟨ex, sys, hn, ?_, .inr w2, es, ep, dt, by rw [he]; exact w1⟩
    rw [ndt_of (fun _ _ => PrT.key) pp']
    exact (nodup_map_iff (fun x y e => by cases e; rfl)).mpr nd
theorem set_dct (hu : X.A.units + 100 < cLine) : PSet X (rSetK X.w X.K) := by
  intro pins s τ H o i v ov iv u Q I ro ri rv h
  obtain ⟨F, a, kvs, d, e, rfl, sb, _, hi, hv, h, hk, hl, q⟩ := h
  cases ro
  exact setAt_dct hu I ri rv sb hi hv h hk hl q

/-! ### the keys, in their order -/
def Itx (d : Addr) (o : Obj) (ks : List V) : It := ⟨fun i H => H d = some (exo d o) ∧ i < ks.length, fun i H x H' => H' = H ∧ ks[i]? = some x, fun i H => H d = some (exo d o) ∧ ks.length ≤ i⟩
theorem turn_x {P : Program} {w : World} {K : Frg} {tg : Expr} {d : Addr} {o : Obj} {es : Array DictEntry} {ep : Nat} {ks : List V} (it : Addr) (hod : o.data = .dict es ep) (hsz : es.size = ks.length) (hr : ∀ (i : Nat) k, ks[i]? = some k → ∃ en, es[i]? = some en ∧ RelV k en.key) :
    Turn P w K tg (Itx d o ks) [it] it (fun i h => h.IsKeyIter it d i ks.length ep) where
  mem := by simp
  obj := fun i h st b hb => by
    have e : b = it := by simpa using hb
    subst e
    obtain ⟨oi, e, c, dd⟩ := st
    exact ⟨oi, e, fun v z => by rw [dd] at z; cases z⟩
  keep := fun i h h' st k => st.at fun oi e => k it (by simp) oi e
  item := by
    intro X hP hw hK hc i pins s σ H E I hf st hg
    subst hP hw hK
    obtain ⟨hd, hi⟩ := hg
    obtain ⟨f0, f1, f2, f3, f4, f5⟩ := hf it (by simp)
    obtain ⟨en, hen, rk⟩ := hr i ks[i] (List.getElem?_eq_getElem hi)
    refine next_key_item st (got I hd) hod hsz hen fun h' st' sb => ?_
    have I1 : L2.Inv X pins σ H { s with heap := h' } := I.turned (t' := s.toks) (fun b ob hb e => (sb.2 b hb).trans e) f0 f1 f3 f4 f5
    obtain ⟨oi, e, c, dd⟩ := id st'
    exact ⟨en.key, rfl, go_of (s := { s with heap := h' }) e c dd (by decide) ⟨ks[i], H, I1, rk, ⟨rfl, List.getElem?_eq_getElem hi⟩, st', fun b hb => (hf b hb).1⟩⟩
  done := by
    intro X hP hw hK hc i pins s σ H E I hf st hg
    subst hP hw hK
    obtain ⟨hd, hi⟩ := hg
    obtain ⟨f0, f1, f2, f3, f4, f5⟩ := hf it (by simp)
    exact next_key_end (I.ok.hd hc) st (got I hd) hod hsz hi fun h' eb => ⟨rfl, I.turned (t' := s.toks) (fun b ob hb e => eb b ob hb e) f0 f1 f3 f4 f5⟩
  self := fun A i s Q E st h => wpAny_pyIter_keyiter st h
theorem ents_get {w : World} {K : Frg} {F : Hp} : ∀ {es : List DictEntry} {ks : List V} {kd : List D} {vs : List V}, Ents w es ks kd vs → es.length = ks.length ∧ ∀ (i : Nat) k, ks[i]? = some k → ∃ en, es[i]? = some en ∧ RelV k en.key
  | _, _, _, _, .nil => ⟨rfl, fun i k h => by simp at h⟩
  | _, _, _, _, .cons a b c d e t => by
    obtain ⟨h1, h2⟩ := ents_get (F := F) (K := K) t
    refine ⟨by simp [h1], fun i k h => ?_⟩
    cases i with
    | zero => simp at h; subst h; exact ⟨_, rfl, a⟩
    | succ i =>
      obtain ⟨en, q1, q2⟩ := h2 i k (by simpa using h)
      exact ⟨en, by simpa using q1, q2⟩
theorem it_dct {tg : Expr} {R : It → Hp → Prop} (I : L2.Inv X pins τ H s) (st : Stt X.w X.K F0 M0 H0 F M S sl σ H) (h : DctAt X.w X.K F F a kvs) (q : ∀ J, WkD X.K F J (kvs.map (·.1)) → R J H) : wpAny (model X.prog X.w) X.A (pyIter (.ref a)) (PIE X pins τ tg R) X.xe s := by
  obtain ⟨o, ks, vs, h, ⟨e1, e2, e3, e4, e5, es, ep, e6, e7⟩, r1, r2⟩ := h
  have hH := st.sub _ _ h
  obtain ⟨g1, g2⟩ := ents_get (F := F) (K := X.K) e7
  have hl : ks.length = (kvs.map (·.1)).length := r1.length
  have hsz : es.size = ks.length := by rw [← g1, Array.length_toList]
  refine iter_keys e2 (got I hH) e1 e6 ?_
  refine pi_one (tk := s.toks) I _ (turn_x (d := a) (o := o) (ks := ks) (ep := ep) _ e6 hsz fun i k hk => ?_) ?_ (q _ ⟨?_, e3⟩)
  · obtain ⟨en, q1, q2⟩ := g2 i k hk
    exact ⟨en, by rw [← Array.getElem?_toList]; exact q1, q2⟩
  · exact ⟨_, Heap.get?_push_size _ rfl, rfl, by rw [hsz]; rfl⟩
  · rw [← hl]
    refine ⟨fun i H hi sb => ⟨sb _ _ h, hi⟩, fun H sb => ⟨sb _ _ h, Nat.le_refl _⟩, fun i H x H' hi sb y => ?_⟩
    obtain ⟨d, e, rp⟩ := r1.get' y.2
    exact ⟨d, e, .inl ⟨y.1, rp⟩⟩

/-! ### sorted(d) -/
theorem kdl_raw {prog : Program} {w : World} {es : Array DictEntry} {ep : Nat} (lo : (a == sysModules) = false) : PySem.W.KdlSrc prog w "dict" a a es.size (fun i v => ∃ hi : i < es.size, v = es[i].key) (fun h => h.DictRaw a es ep) where
  type := fun _ hm => hm.typeIs
  there := fun _ hm => ⟨let ⟨_, ho, _⟩ := hm; Heap.lt_size ho, let ⟨_, ho, _⟩ := hm; Heap.lt_size ho⟩
  keep := fun _ _ hm hk => hm.at fun o e => hk a (.inl rfl) o e
  notList := by decide
  notTuple := by decide
  hint := fun _ _ _ _ hm hq => PySem.W.kdl_hint_dict hm.typeIs hq
  iter := fun _ _ hh hm => ⟨_, _, (fun _ _ hq => wpAny_pyIter_dict_raw lo hm hq), Walks.rawKeys hh _ a (Nat.ne_of_lt (let ⟨_, ho, _⟩ := hm; Heap.lt_size ho)) es ep, ⟨⟨_, Heap.get?_push_size _ rfl, rfl, rfl⟩, hm.at fun o e => Heap.get?_push_of_some _ e⟩⟩
end
end DL

/-! The data layer, part 5: equality, membership, subscripts, slices, built-ins by values. -/
namespace DL
open PySem PySem.Spec PyProof.Rows L2
section
variable {X : Cx}
theorem eqS_inv {a b : RV} {c : Bool} (h : eqS a b = some c) : (∃ d e, toD a = some d ∧ toD b = some e ∧ min d.depth e.depth ≤ 64 ∧ c = dIs d e) ∨ (∃ xs, toK a = some xs ∧ toK b = some [] ∧ leafKeys xs = true ∧ c = xs.isEmpty) := by
  unfold eqS at h
  split at h
  · split at h
    · cases h
      exact .inl ⟨_, _, by assumption, by assumption, by assumption, rfl⟩
    · cases h
  · split at h
    · split at h
      · cases h
        exact .inr ⟨_, by assumption, by assumption, by assumption, rfl⟩
      · cases h
    · cases h
theorem op_eqDD (hu : X.A.units + 64 < cLine) : OpR X (compareOp .Eq) (rP X.w X.K (bR eqS)) := opB_of fun pins s τ H x y v u Q I rx ry F0 M0 H0 F M S sl σ a b c st ha hb e q => by
  rcases eqS_inv e with ⟨d, d2, e1, e2, hd, rfl⟩ | ⟨xs, e1, e2, hk, rfl⟩
  · exact (eq_dat hu I rx ry st ha hb e1 e2 hd).1 Q (q s I)
  · obtain ⟨p, rfl, h1⟩ := toK_rep st.sub ha e1
    obtain ⟨r, rfl, h2⟩ := toK_rep st.sub hb e2
    cases rx
    cases ry
    exact eq_dct0 hu I st.sub h1 h2 hk q
theorem op_neDD (hu : X.A.units + 64 < cLine) : OpR X (compareOp .NotEq) (rP X.w X.K (bR fun a b => (eqS a b).map (!·))) := opB_of fun pins s τ H x y v u Q I rx ry F0 M0 H0 F M S sl σ a b c st ha hb e q => by
  obtain ⟨c', e', rfl⟩ := Option.map_eq_some_iff.mp e
  rcases eqS_inv e' with ⟨d, d2, e1, e2, hd, rfl⟩ | ⟨xs, e1, e2, hk, rfl⟩
  · exact (eq_dat hu I rx ry st ha hb e1 e2 hd).2 Q (q s I)
  · obtain ⟨p, rfl, h1⟩ := toK_rep st.sub ha e1
    obtain ⟨r, rfl, h2⟩ := toK_rep st.sub hb e2
    cases rx
    cases ry
    exact ne_dct0 hu I st.sub h1 h2 hk q
theorem inS_inv {a b : RV} {c : Bool} (h : inS a b = some c) : (∃ x z, a = .sv (.val (.str x)) ∧ b = .sv (.val (.str z)) ∧ x.cps.size = 1 ∧ c = decide (x.cps.getD 0 0 ∈ z.cps.toList)) ∨
    (∃ x ys, a = .sv (.val x) ∧ toSeq b = some ys ∧ x.depth ≤ 64 ∧ c = ys.any fun z => dIs z x) ∨ (∃ x kvs, a = .sv (.val x) ∧ toK b = some kvs ∧ keyFits kvs x = true ∧ c = (dLook kvs x).isSome) := by
  unfold inS at h
  split at h
  · split at h
    · cases h
      exact .inl ⟨_, _, rfl, rfl, by assumption, rfl⟩
    · cases h
  · split at h
    · split at h
      · cases h
        exact .inr (.inl ⟨_, _, rfl, by assumption, by assumption, rfl⟩)
      · cases h
    · unfold inK at h
      split at h
      · split at h
        · cases h
          exact .inr (.inr ⟨_, _, rfl, by assumption, by assumption, rfl⟩)
        · cases h
      · cases h
  · cases h
theorem str_one {x : Str} (h : x.cps.size = 1) : x = ⟨#[x.cps.getD 0 0]⟩ := by
  obtain ⟨c⟩ := x
  have h : c.size = 1 := h
  congr 1
  refine Array.ext (by simpa using h) fun i h1 h2 => ?_
  have : i = 0 := by omega
  subst this
  simp [Array.getD, h1]
/-- a list or tuple as the library reads it -/
theorem seq_reads {pins : List (Addr × Obj)} {s : Shared} {τ : L2.St} {F H : Hp} {p : Addr} {xs : List V} {ds : List D} (I : L2.Inv X pins τ H s) (sb : Sub F H) (h : SqL X.K H p xs ∨ SqT X.K H p xs) (r : Rps X.K F xs ds) :
    ∃ as, Reads s.heap (.ref p) (.list ds) as ∨ Reads s.heap (.ref p) (.tuple ds) as := by
  rcases h with h | h
  · obtain ⟨as, q⟩ := Dp.reads I (.list ds) (.ref p) (.ref p) (.lst h (r.dp sb)) rfl
    exact ⟨as, .inl q⟩
  · obtain ⟨as, q⟩ := Dp.reads I (.tuple ds) (.ref p) (.ref p) (.tup h (r.dp sb)) rfl
    exact ⟨as, .inr q⟩
theorem op_inDD (hu : X.A.units + 100 < cLine) : OpR X (compareOp .In) (rP X.w X.K (bR inS)) := opB_of fun pins s τ H x y v u Q I rx ry F0 M0 H0 F M S sl σ a b c st ha hb e q => by
  rcases inS_inv e with ⟨d, z, rfl, rfl, hd, rfl⟩ | ⟨d, ys, rfl, e2, hd, rfl⟩ | ⟨d, kvs, rfl, e2, hk, rfl⟩
  · obtain ⟨rfl, _, _⟩ := ha.dat.str_inv
    obtain ⟨rfl, _, _⟩ := hb.dat.str_inv
    exact ofOp op_in_sign I rx ry (fun Q' h => ⟨_, _, by rw [← str_one hd], rfl, h⟩) q
  · obtain ⟨p, xs, rfl, hp, _, r⟩ := toSeq_rep st.sub hb e2
    obtain ⟨as, r1⟩ := Dp.reads I _ _ _ (ha.dat.dp st.sub) rx
    obtain ⟨bs, r2 | r2⟩ := seq_reads I st.sub hp r
    · cases ry
      exact SeqAt.in_list_reads r2 r1 r.lay ha.dat.lay (by have : min (PyData.depthAll ys) d.depth ≤ d.depth := Nat.min_le_right _ _; omega) (q s I)
    · cases ry
      exact SeqAt.in_tuple_reads r2 r1 r.lay ha.dat.lay (by have : min (PyData.depthAll ys) d.depth ≤ d.depth := Nat.min_le_right _ _; omega) (q s I)
  · obtain ⟨r, rfl, h2⟩ := toK_rep st.sub hb e2
    cases ry
    exact in_dct (by omega) I rx st.sub ha.dat h2 hk q
theorem op_notinDD (hu : X.A.units + 100 < cLine) : OpR X (compareOp .NotIn) (rP X.w X.K (bR fun a b => (inS a b).map (!·))) := opB_of fun pins s τ H x y v u Q I rx ry F0 M0 H0 F M S sl σ a b c st ha hb e q => by
  obtain ⟨c', e', rfl⟩ := Option.map_eq_some_iff.mp e
  rcases inS_inv e' with ⟨d, z, rfl, rfl, hd, rfl⟩ | ⟨d, ys, rfl, e2, hd, rfl⟩ | ⟨d, kvs, rfl, e2, hk, rfl⟩
  · obtain ⟨rfl, _, _⟩ := ha.dat.str_inv
    obtain ⟨rfl, _, _⟩ := hb.dat.str_inv
    exact ofOp op_notIn_sign I rx ry (fun Q' h => ⟨_, _, by rw [← str_one hd], rfl, h⟩) q
  · obtain ⟨p, xs, rfl, hp, _, r⟩ := toSeq_rep st.sub hb e2
    obtain ⟨as, r1⟩ := Dp.reads I _ _ _ (ha.dat.dp st.sub) rx
    obtain ⟨bs, r2 | r2⟩ := seq_reads I st.sub hp r
    · cases ry
      exact SeqAt.notIn_list_reads r2 r1 r.lay ha.dat.lay (by have : min (PyData.depthAll ys) d.depth ≤ d.depth := Nat.min_le_right _ _; omega) (q s I)
    · cases ry
      exact SeqAt.notIn_tuple_reads r2 r1 r.lay ha.dat.lay (by have : min (PyData.depthAll ys) d.depth ≤ d.depth := Nat.min_le_right _ _; omega) (q s I)
  · obtain ⟨r, rfl, h2⟩ := toK_rep st.sub hb e2
    cases ry
    exact notin_dct (by omega) I rx st.sub ha.dat h2 hk q
def copOf : COp → CmpOp
  | .eq => .Eq | .ne => .NotEq | .lt => .Lt | .le => .LtE | .gt => .Gt | .ge => .GtE | .isN => .Is | .notN => .IsNot | .isB => .Is | .notB => .IsNot | .isin => .In | .notin => .NotIn
theorem op_cop (hu : X.A.units + 100 < cLine) (o : COp) : OpR X (compareOp (copOf o)) (rP X.w X.K (bR (copS o))) := by
  cases o
  · exact op_eqDD (by omega)
  · exact op_neDD (by omega)
  · exact op_ltD (by omega)
  · exact op_leD
  · exact op_gtD
  · exact op_geD
  · exact op_isND
  · exact op_notND
  · exact op_inDD hu
  · exact op_notinDD hu
  · exact op_isBD
  · exact op_notBD

/-! ### subscripts -/
def rSub (w : World) (K : Frg) : R2 := fun x y H Q => ∃ (F0 : Hp) (M0 : List Addr) (H0 F : Hp) (M : List Addr) (S : Store) (sl : Slots) (σ : L2.St) (a b r : RV),
  Stt w K F0 M0 H0 F M S sl σ H ∧ RRV w K H0 F M H x a ∧ RRV w K H0 F M H y b ∧ subS S a b = some r ∧
    ∀ F' H' v, Xt F M H F' M H' → Stt w K F0 M0 H0 F' M S sl σ H' → RRV w K H0 F' M H' v r → NewIn H v r → Q v H'
theorem atI_rps {K : Frg} {F : Hp} {xs : List V} {ds : List D} {i : Int} {d : D} (r : Rps K F xs ds) (h : atI ds i = some d) : ∃ v, atI xs i = some v ∧ Rp K F v d := by
  unfold atI at h ⊢
  rw [r.length]
  cases e : ixN ds.length i with
  | none => rw [e] at h; cases h
  | some j =>
    rw [e] at h
    exact r.get h
theorem strOk_at {z : Str} {i : Int} {c : Nat} (h : PyData.strOk z = true) (e : atI z.cps.toList i = some c) : PyData.strOk ⟨#[c]⟩ = true := by
  unfold atI at e
  cases e1 : ixN z.cps.toList.length i with
  | none => rw [e1] at e; cases e
  | some j =>
    rw [e1] at e
    have e2 : z.cps.toList[j]? = some c := e
    have hm : c ∈ z.cps := by
      have := List.mem_of_getElem? e2
      simpa using this
    unfold PyData.strOk at h ⊢
    rw [Array.all_eq_true_iff_forall_mem] at h
    have := h c hm
    simpa using this
theorem ix_subD (hu : X.A.units + 64 < cLine) : IxR X (rSub X.w X.K) := by
  intro value slice pins s τ H x y v u Q I rx ry ⟨F0, M0, H0, F, M, S, sl, σ, a, b, r, st, ha, hb, e, k⟩ hs
  unfold subS at e
  split at e
  · split at e
    · rename_i hS
      obtain ⟨d, e1, rfl⟩ := Option.map_eq_some_iff.mp e
      have h2 := ha.2
      unfold RSV at h2
      obtain ⟨p, rfl, hM⟩ := h2
      obtain ⟨p', hM', f, vs, hH, _, rr⟩ := st.cls.get hS
      rw [hM] at hM'; cases hM'
      cases hb.dat.int_inv
      obtain ⟨z, hz, rz⟩ := atI_rps rr e1
      exact ix_list value slice pins s τ H _ _ v u Q I rx ry ⟨p, vs, _, z, rfl, rfl, SqL.of hH, hz, keepQ st k (RRV.ofd rz)⟩ hs
    · cases e
  · obtain ⟨c, e1, rfl⟩ := Option.map_eq_some_iff.mp e
    obtain ⟨rfl, o, hz⟩ := ha.dat.str_inv
    cases hb.dat.int_inv
    exact ix_str value slice pins s τ H _ _ v u Q I rx ry ⟨_, _, c, rfl, rfl, hz, e1, keepQ st k (RRV.ofd (.str (strOk_at o e1) (by show 1 ≤ sizeLine; rw [sizeLine_eq]; decide)))⟩ hs
  · split at e
    · obtain ⟨d, e1, rfl⟩ := Option.map_eq_some_iff.mp e
      obtain ⟨p, xs, rfl, hp, _, rr⟩ := toSeq_rep st.sub ha (by assumption)
      cases hb.dat.int_inv
      obtain ⟨z, hz, rz⟩ := atI_rps rr e1
      rcases hp with hp | hp
      · exact ix_list value slice pins s τ H _ _ v u Q I rx ry ⟨p, xs, _, z, rfl, rfl, hp, hz, keepQ st k (RRV.ofd rz)⟩ hs
      · exact ix_tup value slice pins s τ H _ _ v u Q I rx ry ⟨p, xs, _, z, rfl, rfl, hp, hz, keepQ st k (RRV.ofd rz)⟩ hs
    · cases e
    · split at e
      · rename_i e2
        split at e
        · rename_i hk
          obtain ⟨d, e1, rfl⟩ := Option.map_eq_some_iff.mp e
          obtain ⟨p, rfl, h2⟩ := toK_rep st.sub ha e2
          cases rx
          exact ix_dct hu I ry st.sub hb.dat h2 hk e1 (fun z rz => keepQ st k (RRV.ofd rz)) hs
        · cases e
      · cases e
  · cases e

/-! ### slices -/
theorem cut_rps {K : Frg} {F : Hp} {xs : List V} {ds : List D} (r : Rps K F xs ds) (lo hi : Option Int) : Rps K F (cutV xs lo hi) (cutD ds lo hi) := by
  unfold cutV cutD
  rw [r.length]
  exact (r.drop _).take _
def rSlc (w : World) (K : Frg) : V → Option Int → Option Int → Hp → VK → Prop := fun x lo hi H Q => ∃ (F0 : Hp) (M0 : List Addr) (H0 F : Hp) (M : List Addr) (S : Store) (sl : Slots) (σ : L2.St) (a r : RV),
  Stt w K F0 M0 H0 F M S sl σ H ∧ RRV w K H0 F M H x a ∧ slcS a lo hi = some r ∧
    ∀ F' H' v, Xt F M H F' M H' → Stt w K F0 M0 H0 F' M S sl σ H' → RRV w K H0 F' M H' v r → NewIn H v r → Q v H'
theorem sl_D : SlR X (rSlc X.w X.K) := by
  intro pins s τ H x v vl vu lo hi slc Q I rx hs pl pu ⟨F0, M0, H0, F, M, S, sl, σ, a, r, st, ha, e, k⟩
  unfold slcS at e
  split at e
  · cases e
    obtain ⟨p, xs, rfl, hp, z, rr⟩ := ha.dat.tup_inv2
    have hq := cut_rps rr lo hi
    refine sl_tupZ pins s τ H _ v vl vu lo hi slc Q I rx hs pl pu ⟨p, xs, rfl, SqT.sub st.sub hp.sq, ?_⟩
    refine ⟨fun hw => ?_, fun hw t o ht ho => ?_⟩
    · refine keepQ st k (RRV.ofd ?_)
      have : cutD ‹List D› lo hi = ‹List D› := by
        unfold cutD
        rw [rr.length] at hw
        rw [hw.1, hw.2, List.drop_zero, Nat.sub_zero, List.take_length]
      rw [this]
      exact .tup hp z rr
    · exact k _ _ _ (Xt.newF st.sub ht) (st.newF ht) (RRV.ofd (tupF (st.sub.none ht) ho hq (Nat.le_trans (cutV_length _ _ _) z))) trivial
  · split at e
    · rename_i e1
      cases e
      obtain ⟨p, xs, rfl, hp, z, rr⟩ := toL_rep st.sub ha e1
      refine sl_list pins s τ H _ v vl vu lo hi slc Q I rx hs pl pu ⟨p, xs, rfl, SqL.of hp, fun t ht => ?_⟩
      exact k F _ _ (Xt.new st.sub ht) (st.new ht) (st.newL ht (cut_rps rr lo hi) (Nat.le_trans (cutV_length _ _ _) z)) (newIn ht)
    · cases e
end
end DL

/-! The data layer, part 6: built-in functions and methods by values. -/
namespace DL
open PySem PySem.Spec PyProof.Rows L2
/-- several values -/
abbrev RRs (w : World) (K : Frg) (H0 F : Hp) (M : List Addr) (H : Hp) : List V → List RV → Prop := Paired (RRV w K H0 F M H)
def rBi (w : World) (K : Frg) (f : List RV → Option RV) : List V → Hp → VK → Prop := fun xs H Q => ∃ (F0 : Hp) (M0 : List Addr) (H0 F : Hp) (M : List Addr) (S : Store) (sl : Slots) (σ : L2.St) (as : List RV) (r : RV),
  Stt w K F0 M0 H0 F M S sl σ H ∧ RRs w K H0 F M H xs as ∧ f as = some r ∧
    ∀ F' H' v, Xt F M H F' M H' → Stt w K F0 M0 H0 F' M S sl σ H' → RRV w K H0 F' M H' v r → NewIn H v r → Q v H'
section
variable {w : World} {K : Frg} {F0 H0 F H : Hp} {M0 M : List Addr} {S : Store} {sl : Slots} {σ : L2.St} {xs : List V}
theorem one_of {a : RV} (h : RRs w K H0 F M H xs [a]) : ∃ x, xs = [x] ∧ RRV w K H0 F M H x a := by
  cases h with
  | cons h t => cases t; exact ⟨_, rfl, h⟩
theorem two_of {a b : RV} (h : RRs w K H0 F M H xs [a, b]) : ∃ x y, xs = [x, y] ∧ RRV w K H0 F M H x a ∧ RRV w K H0 F M H y b := by
  cases h with
  | cons h t => cases t with | cons h2 t => cases t; exact ⟨_, _, rfl, h, h2⟩
theorem nil_of (h : RRs w K H0 F M H xs []) : xs = [] := by cases h; rfl
theorem bools_rep : ∀ {ds : List D} {bs : List Bool} {xs : List V}, Rps K F xs ds → boolsD ds = some bs → xs = bs.map V.bl
  | _, _, _, .nil, e => by cases e; rfl
  | d :: ds, _, _, .cons h r, e => by
    cases d with
    | bool b =>
      cases h
      rw [boolsD] at e
      obtain ⟨bs', e', rfl⟩ := Option.map_eq_some_iff.mp e
      rw [bools_rep r e']; rfl
    | _ => simp [boolsD] at e
theorem ints_rep : ∀ {ds : List D} {bs : List Int} {xs : List V}, Rps K F xs ds → intsD ds = some bs → xs = bs.map V.int
  | _, _, _, .nil, e => by cases e; rfl
  | d :: ds, _, _, .cons h r, e => by
    cases d with
    | int b =>
      cases h
      rw [intsD] at e
      obtain ⟨bs', e', rfl⟩ := Option.map_eq_some_iff.mp e
      rw [ints_rep r e']; rfl
    | _ => simp [intsD] at e
theorem strs_rep : ∀ {ds : List D} {bs : List Str} {xs : List V}, Rps K F xs ds → strsD ds = some bs → xs = bs.map V.str ∧ ds = bs.map PyData.str
  | _, _, _, .nil, e => by cases e; exact ⟨rfl, rfl⟩
  | d :: ds, _, _, .cons h r, e => by
    cases d with
    | str b =>
      cases h
      rw [strsD] at e
      obtain ⟨bs', e', rfl⟩ := Option.map_eq_some_iff.mp e
      obtain ⟨e1, e2⟩ := strs_rep r e'
      rw [e1, e2]; exact ⟨rfl, rfl⟩
    | _ => simp [strsD] at e
theorem strOk_ofString (t : String) : PyData.strOk (Str.ofString t) = true := by
  rw [Str.ofString_eq_toList]
  unfold PyData.strOk
  rw [Array.all_eq_true_iff_forall_mem]
  intro c hc
  have hc : c ∈ t.toList.map Char.toNat := by simpa using hc
  obtain ⟨d, _, rfl⟩ := List.mem_map.mp hc
  have h := d.valid
  simp only [UInt32.isValidChar, Nat.isValidChar] at h
  have : d.toNat = d.val.toNat := rfl
  rw [this]
  exact decide_eq_true (by omega)
theorem int_len {i : Int} (h : i.natAbs.log2 < 1920) : (toString i : Str).length ≤ sizeLine := PySem.int_text_fits h
theorem vals1' {u : List Value} {x : V} (h : Vals [x] u) : ∃ v, u = [v] ∧ RelV x v := by
  cases h with
  | cons h t => cases t; exact ⟨_, rfl, h⟩
theorem vals2' {u : List Value} {x y : V} (h : Vals [x, y] u) : ∃ v z, u = [v, z] ∧ RelV x v ∧ RelV y z := by
  cases h with
  | cons h t => cases t with | cons h2 t => cases t; exact ⟨_, _, rfl, h, h2⟩
end
section
variable {X : Cx}
/-- a tuple of a list's items -/
theorem call_lenD : CallR X (.builtin "len") (rBi X.w X.K (biS .len)) := by
  intro pins s τ H xs us Q I rv ⟨F0, M0, H0, F, M, S, sl, σ, as, r, st, ha, e, k⟩
  unfold biS at e
  split at e <;> first | contradiction | skip
  · cases e
    obtain ⟨x, rfl, h⟩ := one_of ha
    obtain ⟨rfl, _, hz⟩ := h.dat.str_inv
    exact call_len_str pins s τ H _ us Q I rv ⟨_, rfl, hz, keepQ st k (RRV.int_ _)⟩
  · obtain ⟨x, rfl, h⟩ := one_of ha
    split at e
    · cases e
      obtain ⟨p, ys, rfl, hp, zz, rr⟩ := toSeq_rep st.sub h (by assumption)
      exact call_len_seq pins s τ H _ us Q I rv ⟨p, ys, rfl, hp, by rw [rr.length]; exact keepQ st k (RRV.int_ _)⟩
    · split at e
      · cases e
        obtain ⟨p, rfl, h2⟩ := toK_rep st.sub h (by assumption)
        obtain ⟨v, rfl, rx⟩ := vals1' rv
        cases rx
        exact len_dct I st.sub h2 (keepQ st k (RRV.int_ _))
      · cases e
theorem call_tupleD : CallR X (.type "tuple") (rBi X.w X.K (biS .tuple)) := by
  intro pins s τ H xs us Q I rv ⟨F0, M0, H0, F, M, S, sl, σ, as, r, st, ha, e, k⟩
  unfold biS at e
  split at e <;> first | contradiction | skip
  · cases e
    obtain ⟨x, rfl, h⟩ := one_of ha
    have h0 := h
    obtain ⟨p, ys, rfl, hp, zz, rr⟩ := h.dat.tup_inv
    exact call_tuple_of pins s τ H _ us Q I rv ⟨p, ys, rfl, .inr ⟨SqT.sub st.sub hp, keepQ st k h0⟩⟩
  · obtain ⟨x, rfl, h⟩ := one_of ha
    split at e
    · cases e
      obtain ⟨p, ys, rfl, hp, zz, rr⟩ := toL_rep st.sub h (by assumption)
      exact call_tupleZ pins s τ H _ us Q I rv ⟨p, ys, rfl, SqL.of hp, fun t o ht ho => k _ _ _ (Xt.newF st.sub ht) (st.newF ht) (RRV.ofd (tupF (st.sub.none ht) ho rr zz)) trivial⟩
    · cases e
theorem call_listD : CallR X (.type "list") (rBi X.w X.K (biS .list)) := by
  intro pins s τ H xs us Q I rv ⟨F0, M0, H0, F, M, S, sl, σ, as, r, st, ha, e, k⟩
  unfold biS at e
  split at e <;> first | contradiction | skip
  obtain ⟨x, rfl, h⟩ := one_of ha
  split at e
  · cases e
    obtain ⟨p, ys, rfl, hp, zz, rr⟩ := toSeq_rep st.sub h (by assumption)
    exact call_list_of pins s τ H _ us Q I rv ⟨p, ys, rfl, hp, fun t ht => k F _ _ (Xt.new st.sub ht) (st.new ht) (st.newL ht rr zz) (newIn ht)⟩
  · cases e
theorem call_allD (hc : X.calm = true) : CallR X (.builtin "all") (rBi X.w X.K (biS .all)) := by
  intro pins s τ H xs us Q I rv ⟨F0, M0, H0, F, M, S, sl, σ, as, r, st, ha, e, k⟩
  unfold biS at e
  split at e <;> first | contradiction | skip
  obtain ⟨x, rfl, h⟩ := one_of ha
  split at e
  · split at e
    · cases e
      obtain ⟨p, ys, rfl, hp, zz, rr⟩ := toL_rep st.sub h (by assumption)
      have := bools_rep rr (by assumption)
      subst this
      exact cr_all hc pins s τ H _ us Q I rv ⟨p, _, rfl, SqL.of hp, keepQ st k (RRV.bl_ _)⟩
    · cases e
  · cases e
theorem call_anyD (hc : X.calm = true) : CallR X (.builtin "any") (rBi X.w X.K (biS .any)) := by
  intro pins s τ H xs us Q I rv ⟨F0, M0, H0, F, M, S, sl, σ, as, r, st, ha, e, k⟩
  unfold biS at e
  split at e <;> first | contradiction | skip
  obtain ⟨x, rfl, h⟩ := one_of ha
  split at e
  · split at e
    · cases e
      obtain ⟨p, ys, rfl, hp, zz, rr⟩ := toL_rep st.sub h (by assumption)
      have := bools_rep rr (by assumption)
      subst this
      exact cr_any hc pins s τ H _ us Q I rv ⟨p, _, rfl, SqL.of hp, keepQ st k (RRV.bl_ _)⟩
    · cases e
  · cases e
theorem call_sumD (hc : X.calm = true) : CallR X (.builtin "sum") (rBi X.w X.K (biS .sum)) := by
  intro pins s τ H xs us Q I rv ⟨F0, M0, H0, F, M, S, sl, σ, as, r, st, ha, e, k⟩
  unfold biS at e
  split at e <;> first | contradiction | skip
  obtain ⟨x, rfl, h⟩ := one_of ha
  split at e
  · split at e
    · cases e
      obtain ⟨p, ys, rfl, hp, zz, rr⟩ := toL_rep st.sub h (by assumption)
      have := ints_rep rr (by assumption)
      subst this
      exact cr_sum hc pins s τ H _ us Q I rv ⟨p, _, rfl, SqL.of hp, keepQ st k (RRV.int_ _)⟩
    · cases e
  · cases e
theorem call_max2D (hc : X.calm = true) : CallR X (.builtin "max") (rBi X.w X.K (biS .max2)) := by
  intro pins s τ H xs us Q I rv ⟨F0, M0, H0, F, M, S, sl, σ, as, r, st, ha, e, k⟩
  unfold biS at e
  split at e <;> first | contradiction | skip
  cases e
  obtain ⟨x, y, rfl, h, h2⟩ := two_of ha
  cases h.dat.int_inv
  cases h2.dat.int_inv
  exact call_max2 hc pins s τ H _ us Q I rv ⟨_, _, rfl, keepQ st k (RRV.int_ _)⟩
theorem call_min2D (hc : X.calm = true) : CallR X (.builtin "min") (rBi X.w X.K (biS .min2)) := by
  intro pins s τ H xs us Q I rv ⟨F0, M0, H0, F, M, S, sl, σ, as, r, st, ha, e, k⟩
  unfold biS at e
  split at e <;> first | contradiction | skip
  cases e
  obtain ⟨x, y, rfl, h, h2⟩ := two_of ha
  cases h.dat.int_inv
  cases h2.dat.int_inv
  exact call_min2 hc pins s τ H _ us Q I rv ⟨_, _, rfl, keepQ st k (RRV.int_ _)⟩
theorem call_intD : CallR X (.type "int") (rBi X.w X.K (biS .int)) := by
  intro pins s τ H xs us Q I rv ⟨F0, M0, H0, F, M, S, sl, σ, as, r, st, ha, e, k⟩
  unfold biS at e
  split at e <;> first | contradiction | skip
  all_goals cases e
  · obtain ⟨x, rfl, h⟩ := one_of ha
    cases h.dat.int_inv
    exact call_int1 pins s τ H _ us Q I rv (.inl ⟨_, rfl, keepQ st k (RRV.int_ _)⟩)
  · obtain ⟨x, rfl, h⟩ := one_of ha
    cases h.dat.bl_inv
    exact call_int1 pins s τ H _ us Q I rv (.inr ⟨_, rfl, keepQ st k (RRV.int_ _)⟩)
theorem call_strD : CallR X (.type "str") (rBi X.w X.K (biS .str)) := by
  intro pins s τ H xs us Q I rv ⟨F0, M0, H0, F, M, S, sl, σ, as, r, st, ha, e, k⟩
  unfold biS at e
  split at e <;> first | contradiction | skip
  · split at e
    · rename_i hz
      cases e
      obtain ⟨x, rfl, h⟩ := one_of ha
      cases h.dat.int_inv
      exact call_str_int pins s τ H _ us Q I rv ⟨_, rfl, hz, keepQ st k (RRV.ofd (.str (strOk_ofString _) (int_len hz)))⟩
    · cases e
  · cases e
    obtain ⟨x, rfl, h⟩ := one_of ha
    obtain ⟨rfl, o, oz⟩ := h.dat.str_inv
    exact SkE.call_str_str pins s τ H _ us Q I rv ⟨_, rfl, keepQ st k (RRV.ofd (.str o oz))⟩
/-- what sorts: the library's two premises -/
theorem sortOk_inv {ds : List D} (h : sortOk ds = true) : PySem.W.AllAlike ds ∧ PySem.W.Sortable ds ∧ ∀ d ∈ ds, d.depth ≤ 64 := by
  unfold sortOk at h
  simp only [Bool.and_eq_true, List.all_eq_true, Bool.or_eq_true, decide_eq_true_eq] at h
  obtain ⟨h1, h2⟩ := h
  refine ⟨fun d hd d' hd' => (h1 d hd).2 d' hd', ?_, fun d hd => (h1 d hd).1⟩
  rcases h2 with h2 | h2
  · refine .inl fun d hd => ?_
    have q := h2 d hd
    split at q
    · exact ⟨_, _, rfl⟩
    · cases q
  · refine .inr fun d hd => ?_
    have q := h2 d hd
    constructor
    · intro z; subst z; cases q
    · intro xs z; subst z; cases q
theorem each_of {F H : Hp} {pins : List (Addr × Obj)} {s : Shared} {τ : L2.St} (I : L2.Inv X pins τ H s) (sb : Sub F H) : ∀ {xs : List V} {us : List Value} {ds : List D}, Vals xs us → Rps X.K F xs ds →
    PySem.W.EachIs (fun (u : Value) d => ∃ v, RelV v u ∧ Rp X.K F v d) us ds ∧ PySem.W.EachIs (fun u d => ∃ as, Reads s.heap u (id d) as) us ds
  | _, _, _, .nil, .nil => ⟨.nil, .nil⟩
  | _, _, _, .cons h t, .cons r q => by
    obtain ⟨e1, e2⟩ := each_of I sb t q
    exact ⟨.cons ⟨_, h, r⟩ e1, .cons (Dp.reads I _ _ _ (r.dp sb) h) e2⟩
theorem of_each {K : Frg} {F : Hp} {us : List Value} {ds : List D} (h : PySem.W.EachIs (fun (u : Value) d => ∃ v, RelV v u ∧ Rp K F v d) us ds) : ∃ xs, Vals xs us ∧ Rps K F xs ds := by
  induction h with
  | nil => exact ⟨[], .nil, .nil⟩
  | cons h t ih =>
    obtain ⟨v, r, p⟩ := h
    obtain ⟨xs, h1, h2⟩ := ih
    exact ⟨v :: xs, .cons r h1, .cons p h2⟩
/-- sorted(a list at p) -/
theorem sorted_at (hu : X.A.units + 100 < cLine) {pins : List (Addr × Obj)} {s : Shared} {τ : L2.St} {F0 H0 F H : Hp} {M0 M : List Addr} {S : Store} {sl : Slots} {σ : L2.St} {Q : VK} {p : Addr} {ys : List V} {ds : List D}
    (I : L2.Inv X pins τ H s) (st : Stt X.w X.K F0 M0 H0 F M S sl σ H) (hp : H p = some (.lst ys)) (rr : Rps X.K F ys ds) (ok : sortOk ds = true)
    (k : ∀ F' H' v, Xt F M H F' M H' → Stt X.w X.K F0 M0 H0 F' M S sl σ H' → RRV X.w X.K H0 F' M H' v (.new (.lst (sortD ds))) → NewIn H v (.new (.lst (sortD ds))) → Q v H') : wpAny (model X.prog X.w) X.A (call (.builtin "sorted") [.ref p]) (EP X pins τ Q) X.xe s := by
  obtain ⟨a1, a2, a3⟩ := sortOk_inv ok
  obtain ⟨its, rvl, hl, hz⟩ := I.list (SqL.of hp)
  obtain ⟨e1, e2⟩ := each_of I st.sub rvl rr
  refine PySem.W.sorted_data (enc := id) hl.isList e1 e2 (by simpa using a1) (by simpa using a2) (by rw [← rr.length]; exact hz) (fun d hd => ?_) fun out ho eo => ?_
  · have := a3 d hd
    show X.A.units + 2 + d.depth < cLine
    omega
  · obtain ⟨xs, h1, h2⟩ := of_each eo
    obtain ⟨ep, he'⟩ := PyProof.Rows.sortedAll_at s.heap its out.toArray
    have hn : H (s.heap.objs.size + 1) = none := I.hok.fresh (Nat.le_succ _)
    have hlen : xs.length ≤ sizeLine := by rw [h2.length, List.length_mergeSort, ← rr.length]; exact hz
    exact ⟨.ref _, upd H (s.heap.objs.size + 1) (.lst xs), I.laid (t' := s.toks) (fun _ _ => PyProof.Rows.sortedAll_old) (Nat.le_succ _) ⟨hlen, out, ep, h1, he'⟩, rfl, k F _ _ (Xt.new st.sub hn) (st.new hn) (st.newL hn h2 hlen) (newIn hn)⟩
theorem isi_D (t : Ty) {F H : Hp} {x : V} {d : D} (hx : Rp X.K F x d) (sb : Sub F H) : ∃ ty, TyX X.K H x (.type ty) ∧ ∀ n, (n = match t with | .int => "int" | .str => "str" | .tuple => "tuple" | .list => "list" | .bool => "bool") →
    PySem.W.kitOne X.K (.type ty) (.type n) = some (tyIs t d) := by
  cases hx with
  | non => exact ⟨_, .base .non, fun n e => by subst e; refine kit_ty ?_; cases t <;> decide +kernel⟩
  | bl b => exact ⟨_, .base (.bl b), fun n e => by subst e; refine kit_ty ?_; cases t <;> simp only [tyIs] <;> decide +kernel⟩
  | int i => exact ⟨_, .base (.int i), fun n e => by subst e; refine kit_ty ?_; cases t <;> simp only [tyIs] <;> decide +kernel⟩
  | str o _ => exact ⟨_, .base (.str _), fun n e => by subst e; refine kit_ty ?_; cases t <;> simp only [tyIs] <;> decide +kernel⟩
  | lst q _ r => exact ⟨_, .base (.lst (sb _ _ q)), fun n e => by subst e; refine kit_ty ?_; cases t <;> simp only [tyIs] <;> decide +kernel⟩
  | tup q _ r =>
    have fin : ∀ n, (n = match t with | .int => "int" | .str => "str" | .tuple => "tuple" | .list => "list" | .bool => "bool") → PySem.W.kitOne X.K (.type "tuple") (.type n) = some (tyIs t (.tuple ‹List D›)) :=
      fun n e => by subst e; refine kit_ty ?_; cases t <;> simp only [tyIs] <;> decide +kernel
    rcases q.sq with (q | ⟨o, q⟩) | ⟨o, its, n, hk, hc, _⟩
    · exact ⟨_, .base (.tup (sb _ _ q)), fin⟩
    · exact ⟨_, .fTuple (sb _ _ q), fin⟩
    · exact ⟨_, .kTuple hk hc, fin⟩
theorem up_eq : PyProof.Rows.up1 = upC := by
  funext c
  rfl
theorem mt_upperD : MtR X "str.upper" (fun x xs H Q => ∃ a, x = .str a ∧ xs = [] ∧ lowS a = true ∧ a.length ≤ 5592405 ∧ Q (.str ⟨a.cps.map upC⟩) H) := by
  intro pins s τ H x xs v us Q I rx rv ⟨a, e1, e2, hl, hz, q⟩
  refine mt_upper pins s τ H x xs v us Q I rx rv ⟨a, e1, e2, hz, ?_⟩
  have hA : ∀ c ∈ a.cps.toList, c < 128 := fun c hc => by
    unfold lowS at hl
    rw [Array.all_eq_true_iff_forall_mem] at hl
    exact of_decide_eq_true (hl c (by simpa using hc))
  rw [upper_ascii hA, up_eq]
  exact q
end
end DL

/-! The data layer, part 6: sorted(d), dict(pairs). -/
namespace DL
open PySem PySem.Spec PyProof.Rows L2
section
variable {w : World} {K : Frg} {F0 H0 F H : Hp} {M0 M : List Addr} {S : Store} {sl : Slots} {σ : L2.St} {kvs : List (D × D)} {a : Addr}
/-- a new dict, as an expression's value -/
theorem Stt.newD (h : Stt w K F0 M0 H0 F M S sl σ H) {p : Addr} {o : Obj} (hp : H p = none) (ok : DcOk w K F p o kvs) : RRV w K H0 F M (upd H p (exo p o)) (.ref p) (.new (.dct kvs)) :=
  ⟨p, rfl, h.base.none0 hp, h.sub.none hp, fun z => (h.cls.mem_some z).2 hp, dctAt_iff.mpr ⟨o, upd_same, ok⟩⟩
theorem DcOk.of_strs {P : Program} {h : Heap} {vs : List (Str × Value)} (dd : h.DictOf (PySem.strKind P w) a vs) (pp : Paired (PrS K F) vs kvs) (sys : (a == sysModules) = false) (hn : kvs.length ≤ sizeLine) : ∃ o, h.get? a = some o ∧ DcOk w K F a o kvs := by
  obtain ⟨o', es, ep, g, ex, dt, ko, pr, nd⟩ := dd
  obtain ⟨w1, w2⟩ := strs_of pr (fun e he => ko e (by simpa using he)) pp
  refine ⟨o', g, ex, sys, hn, ?_, .inl w2, es, ep, dt, w1⟩
  rw [nds_of (fun _ _ => PrS.key) pp]
  exact (nodup_map_iff (fun x y e => by cases e; rfl)).mpr nd
theorem DcOk.of_tups {P : Program} {h : Heap} {xs : List (NestedKey × Addr × Value)} (dd : h.DictOfH (nestedKind P w) a xs) (pp : Paired (PrT K F) xs kvs) (sys : (a == sysModules) = false) (hn : kvs.length ≤ sizeLine) : ∃ o, h.get? a = some o ∧ DcOk w K F a o kvs := by
  obtain ⟨o', es, ep, g, ex, dt, he, _, nd⟩ := dd
  obtain ⟨w1, w2⟩ := tups_of (P := P) (w := w) pp
  refine ⟨o', g, ex, sys, hn, ?_, .inr w2, es, ep, dt, by rw [he]; exact w1⟩
  rw [ndt_of (fun _ _ => PrT.key) pp]
  exact (nodup_map_iff (fun x y e => by cases e; rfl)).mpr nd
theorem put_s {vs : List (Str × Value)} (pp : Paired (PrS K F) vs kvs) (nd : (vs.map (·.1)).Nodup) {k : Str} {d e : D} {v : V} {r : Value} (hk : KeyS k d) (rz : RelV v r) (hz : Rp K F v e) : Paired (PrS K F) (stored vs k r) (dPut kvs d e) := by
  obtain ⟨rfl, _, _⟩ := id hk
  refine put_g (R := PrS K F) (k := k) (d := .str k) (f := fun kv => if kv.1 = k then (kv.1, r) else kv) (n := (k, r)) (fun q p r => PrS.is r k) (fun x hx => if_neg hx) (fun q p hq e => ?_) ⟨hk, v, rz, hz⟩ pp nd
  rw [if_pos e]
  exact ⟨hq.1, v, rz, hz⟩
theorem stored_nodup {vs : List (Str × Value)} (nd : (vs.map (·.1)).Nodup) (k : Str) (r : Value) : ((stored vs k r).map (·.1)).Nodup := by
  unfold stored
  split
  · rw [keys_map_store]; exact nd
  · rename_i h
    rw [List.map_append, List.nodup_append]
    refine ⟨nd, by simp, fun x hx y hy e => ?_⟩
    have hy : y = k := by simpa using hy
    subst e hy
    obtain ⟨p, hp, e⟩ := List.mem_map.mp hx
    exact h (List.any_eq_true.mpr ⟨p, hp, decide_eq_true e⟩)
theorem merge_s : ∀ {more : List (Str × Value)} {kds : List (D × D)} {vs : List (Str × Value)} {kvs : List (D × D)}, Paired (PrS K F) more kds → Paired (PrS K F) vs kvs → (vs.map (·.1)).Nodup → Paired (PrS K F) (merged vs more) (dMerge kvs kds)
  | _, _, _, _, .nil, p, _ => p
  | _, _, _, _, .cons r t, p, nd => by
    obtain ⟨hk, v, rv, rp⟩ := r
    show Paired _ (merged (stored _ _ _) _) (dMerge (dPut _ _ _) _)
    exact merge_s t (put_s p nd hk rv rp) (stored_nodup nd _ _)
theorem dMerge_len : ∀ (more kvs : List (D × D)), (dMerge kvs more).length ≤ kvs.length + more.length
  | [], _ => Nat.le_refl _
  | p :: r, kvs => by
    rw [dMerge]
    have h1 := dMerge_len r (dPut kvs p.1 p.2)
    have h2 := dPut_len p.1 p.2 kvs
    simp only [List.length_cons]
    omega
/-- the pairs of a row, as data and in memory -/
theorem pairs_rep : ∀ {ds : List D} {kvs : List (D × D)} {xs : List V}, pairsD ds = some kvs → strKeys kvs = true → Rps K F xs ds →
    ∃ ps : List (Addr × Str × V), xs = ps.map (fun p => V.ref p.1) ∧ Paired (fun (p : Addr × Str × V) (q : D × D) => SqT K F p.1 [.str p.2.1, p.2.2] ∧ KeyS p.2.1 q.1 ∧ Rp K F p.2.2 q.2) ps kvs
  | [], _, _, e, _, r => by cases e; cases r; exact ⟨[], rfl, .nil⟩
  | d :: ds, kvs, _, e, hs, r => by
    unfold pairsD at e
    split at e
    · cases ‹_ :: _ = []›
    · rename_i k v r0 hd
      cases hd
      obtain ⟨kvs', e', rfl⟩ := Option.map_eq_some_iff.mp e
      unfold strKeys at hs
      rw [List.all_cons, Bool.and_eq_true] at hs
      cases r with
      | cons r1 r2 =>
        obtain ⟨ps, i1, i2⟩ := pairs_rep e' hs.2 r2
        obtain ⟨a, ys, rfl, sq, _, rr⟩ := r1.tup_inv
        cases rr with
        | cons q1 rr =>
          cases rr with
          | cons q2 rr =>
            cases rr
            have h1 := hs.1
            cases k with
            | str x =>
              obtain ⟨rfl, o, z⟩ := q1.str_inv
              exact ⟨(a, x, _) :: ps, by rw [List.map_cons, ← i1], .cons ⟨sq, ⟨rfl, o, z⟩, q2⟩ i2⟩
            | _ => cases h1
    · cases e
end
section
variable {X : Cx} {pins : List (Addr × Obj)} {s : Shared} {τ : L2.St} {F0 H0 F H : Hp} {M0 M : List Addr} {S : Store} {sl : Slots} {σ : L2.St} {kvs : List (D × D)} {a : Addr}
theorem sorted_dct (hu : X.A.units + 100 < cLine) (hc : X.calm = true) (I : L2.Inv X pins τ H s) (st : Stt X.w X.K F0 M0 H0 F M S sl σ H) (h : DctAt X.w X.K F H a kvs) (ok : sortOk (kvs.map (·.1)) = true) {Q : VK}
    (k : ∀ F' H' v, Xt F M H F' M H' → Stt X.w X.K F0 M0 H0 F' M S sl σ H' → RRV X.w X.K H0 F' M H' v (.new (.lst (sortD (kvs.map (·.1))))) → NewIn H v (.new (.lst (sortD (kvs.map (·.1))))) → Q v H') : wpAny (model X.prog X.w) X.A (call (.builtin "sorted") [.ref a]) (EP X pins τ Q) X.xe s := by
  obtain ⟨o, ks, vs, h, ⟨e1, e2, e3, e4, e5, es, ep, e6, e7⟩, r1, r2⟩ := h
  obtain ⟨a1, a2, a3⟩ := sortOk_inv ok
  have g := got I h
  have hm : s.heap.DictRaw a es ep := ⟨o, g, e1, e6⟩
  obtain ⟨g1, g2⟩ := ents_get (F := F) (K := X.K) e7
  have hl : ks.length = (kvs.map (·.1)).length := r1.length
  have hsz : es.size = ks.length := by rw [← g1, Array.length_toList]
  have h16 : es.size ≤ sizeLine := by rw [hsz, hl]; exact e3
  refine Calls.call_function_entry PyProof.Rows.kind_sorted PyProof.Rows.plain_sorted PyProof.Rows.entry_sorted (PyProof.Rows.args_sorted1 _) ?_
  unfold Builtin.«sorted»
  refine wpAny_bind (m := checkCount "sorted" 1 1 _) (wpAny_pure ?_)
  refine wpAny_bind (PySem.W.kdu_collect (A := X.A.in1) (kdl_raw e2) (I.ok.hd hc) hm h16 fun h' tk acc hk hacc => ?_)
  have hal : acc.toList.length = ks.length := by rw [Array.length_toList, hacc.1, hsz]
  have hV : Vals ks acc.toList := by
    have : ∀ {ks : List V} {us : List Value}, us.length = ks.length → (∀ (i : Nat) k u, ks[i]? = some k → us[i]? = some u → RelV k u) → Vals ks us := by
      intro ks
      induction ks with
      | nil => intro us hl _; cases us with
        | nil => exact .nil
        | cons _ _ => simp at hl
      | cons k ks ih =>
        intro us hl hr
        cases us with
        | nil => simp at hl
        | cons u us => exact .cons (hr 0 k u rfl rfl) (ih (by simpa using hl) fun i k u e1 e2 => hr (i + 1) k u (by simpa using e1) (by simpa using e2))
    refine this hal fun i k u ek eu => ?_
    obtain ⟨en, q1, q2⟩ := g2 i k ek
    obtain ⟨hi, e⟩ := hacc.2 i u (by rw [← Array.getElem?_toList]; exact eu)
    have : es[i] = en := by
      have q3 : es.toList[i]? = some es[i] := by simp [hi]
      rw [q1] at q3
      exact (Option.some.inj q3).symm
    rw [e, this]
    exact q2
  have I1 : L2.Inv X pins τ H { s with heap := h', toks := tk } := I.kept hk
  refine wpAny_bind (wpAny_newList ?_ (by rw [hal, hl]; exact e3))
  have hoL : (h'.push (seqObj "list" acc.toList.toArray 0)).get? h'.objs.size = some (seqObj "list" acc.toList.toArray 0) := Heap.get?_push_size _ rfl
  show wpAny _ _ _ _ _ { s with heap := h'.push (seqObj "list" acc.toList.toArray 0), toks := tk }
  obtain ⟨ea, eb⟩ := each_of I1 st.sub hV r1
  have er' : PySem.W.EachIs (fun v b => ∃ as, Reads (PySem.W.sortingHeap (h'.push (seqObj "list" acc.toList.toArray 0)) h'.objs.size acc.toList) v (id b) as) acc.toList (kvs.map (·.1)) := eb.mono fun v b ⟨as, r⟩ => ⟨as, PyProof.Rows.Reads.keeps (fun b o q => PySem.W.sortingHeap_old (Nat.ne_of_lt (Heap.lt_size q)) (Heap.get?_push_of_some _ q)) r⟩
  have sv : PySem.W.EachIs (fun (u : Value) d => ∃ v, RelV v u ∧ Rp X.K F v d) _ _ := PySem.W.sortVals_data (enc := id) false ea er' (by rw [List.map_id]; exact a1)
  refine wpAny_bind (wpAny_holding (wpAny_call_entry PyProof.Rows.slot_list_sort ⟨_, hoL, rfl⟩ PyProof.Rows.entry_list_sort
    (PySem.W.list_sort_vals (κ := PySem.W.dataKind (PySem.W.sortingHeap (h'.push (seqObj "list" acc.toList.toArray 0)) h'.objs.size acc.toList) ((kvs.map (·.1)).map id)) (s := { s with heap := h'.push (seqObj "list" acc.toList.toArray 0), toks := tk }) hoL
      (PySem.W.SortsAt.data (s := { s with heap := PySem.W.sortingHeap (h'.push (seqObj "list" acc.toList.toArray 0)) h'.objs.size acc.toList, toks := tk })
        (PySem.W.each_map (R := fun v d => ∃ as, Reads (PySem.W.sortingHeap (h'.push (seqObj "list" acc.toList.toArray 0)) h'.objs.size acc.toList) v d as) id er') (by rw [List.map_id]; exact a1) (by rw [List.map_id]; exact a2) (PySem.W.bound_map fun d hd => ?_)) (by rw [hal, hl]; exact e3) ⟨_, rfl, ?_⟩)
    (PyProof.Rows.args_list_sort _)))
  · have := a3 d hd
    show X.A.units + 1 + 1 + d.depth < cLine
    omega
  · obtain ⟨xs, h1, h2⟩ := of_each sv
    obtain ⟨e', he'⟩ := PyProof.Rows.sortedHeap_at (vs := acc.toList) (out := (PySem.W.sortVals (PySem.W.dataKind (PySem.W.sortingHeap (h'.push (seqObj "list" acc.toList.toArray 0)) h'.objs.size acc.toList) ((kvs.map (·.1)).map id)) false acc.toList acc.toList).toArray) hoL
    have hn : H h'.objs.size = none := I1.hok.fresh (Nat.le_refl _)
    have hlen : xs.length ≤ sizeLine := by rw [h2.length, List.length_mergeSort]; exact e3
    refine wpAny_pure ⟨_, rfl, .ref h'.objs.size, upd H h'.objs.size (.lst xs), I1.laid (t' := tk) (fun b u e => ?_) (Nat.le_refl _)
      (show ObjOk X.prog X.w _ _ _ (.lst xs) from ⟨hlen, _, e', h1, he'⟩), rfl, k F _ _ (Xt.new st.sub hn) (st.new hn) (st.newL hn h2 hlen) (newIn hn)⟩
    have hb : b < h'.objs.size := Heap.lt_size e
    rw [PyProof.Rows.sortedHeap_old (Nat.ne_of_lt hb) (by rw [size_push']; exact Nat.lt_succ_of_lt hb)]
    exact Heap.get?_push_of_some _ e
theorem paired_len {α β : Type} {R : α → β → Prop} {as : List α} {bs : List β} (h : Paired R as bs) : as.length = bs.length := h.length
/-- the values of the pairs -/
theorem pairs_vals (I : L2.Inv X pins τ H s) (sb : Sub F H) : ∀ {ps : List (Addr × Str × V)} {kvs : List (D × D)}, Paired (fun (p : Addr × Str × V) (q : D × D) => SqT X.K F p.1 [.str p.2.1, p.2.2] ∧ KeyS p.2.1 q.1 ∧ Rp X.K F p.2.2 q.2) ps kvs →
    ∃ zs : List (Str × Tok × Value), zs.length = ps.length ∧ Paired (PrS X.K F) (zs.map fun z => (z.1, z.2.2)) kvs ∧ ∀ (j : Nat) (p : Addr × Str × V) z, ps[j]? = some p → zs[j]? = some z → z.1 = p.2.1 ∧ PairAt s.heap p.1 (.str z.1 z.2.1) z.2.2
  | _, _, .nil => ⟨[], rfl, .nil, fun j p z h => by simp at h⟩
  | _, _, .cons r t => by
    obtain ⟨zs, i0, i1, i2⟩ := pairs_vals I sb t
    obtain ⟨sq, hk, rp⟩ := r
    obtain ⟨its, rv, ⟨o, ho, hcl, n, hd⟩, _⟩ := I.tuple (SqT.sub sb sq)
    obtain ⟨u1, u2, rfl, ru1, ru2⟩ := vals2' rv
    obtain ⟨t1, rfl⟩ := ru1
    refine ⟨(_, t1, u2) :: zs, by simp [i0], .cons ⟨hk, _, ru2, rp⟩ i1, fun j p z h1 h2 => ?_⟩
    cases j with
    | zero =>
      simp at h1 h2
      subst h1 h2
      exact ⟨rfl, .inl ⟨o, ho, hcl, n, hd⟩⟩
    | succ j => exact i2 j p z (by simpa using h1) (by simpa using h2)
theorem paired_get {α β : Type} {R : α → β → Prop} {as : List α} {bs : List β} (p : Paired R as bs) : ∀ {i : Nat} {b : β}, bs[i]? = some b → ∃ a, as[i]? = some a ∧ R a b := by
  induction p with
  | nil => intro i b e; simp at e
  | cons r t ih =>
    intro i b e
    cases i with
    | zero => simp at e; subst e; exact ⟨_, rfl, r⟩
    | succ i => obtain ⟨a, h1, h2⟩ := ih (i := i) (by simpa using e); exact ⟨a, by simpa using h1, h2⟩
/-- dict(a list or tuple of pairs), by the library's argument -/
theorem dict_arg {T : String} {p : Addr} {fp : List Addr} {n : Nat} {Rel : Nat → Value → Value → Prop} {OK : Heap → Prop} (hc : X.calm = true) (A : PairArg X.prog X.w T p fp [] n Rel OK) (ok : OK s.heap)
    (I : L2.Inv X pins τ H s) (st : Stt X.w X.K F0 M0 H0 F M S sl σ H) {vs : List (Str × Value)} {kds : List (D × D)} (hp : PairsHave (PySem.strKind X.prog X.w) n Rel vs) (pp : Paired (PrS X.K F) vs kds) (hn : n ≤ sizeLine) {Q : VK}
    (k : ∀ F' H' v, Xt F M H F' M H' → Stt X.w X.K F0 M0 H0 F' M S sl σ H' → RRV X.w X.K H0 F' M H' v (.new (.dct (dMerge [] kds))) → NewIn H v (.new (.dct (dMerge [] kds))) → Q v H') : wpAny (model X.prog X.w) X.A (call (.type "dict") [.ref p]) (EP X pins τ Q) X.xe s := by
  refine call_dict_pairs A (I.ok.hd hc) ok hp hn fun h' tk dd kp => ?_
  have kp' : ∀ b o, s.heap.get? b = some o → h'.get? b = some o := fun b o e => kp b o (fun z => nomatch z) e
  have hsz : (dMerge [] kds).length ≤ sizeLine := by
    have h1 := dMerge_len kds []
    have h2 : vs.length = n := hp.1
    have h3 := pp.length
    simp only [List.length_nil] at h1
    omega
  have sys : (s.heap.objs.size == sysModules) = false := beq_eq_false_iff_ne.mpr (Nat.ne_of_gt I.big)
  obtain ⟨o, g, ok'⟩ := DcOk.of_strs dd (merge_s pp .nil List.nodup_nil) sys hsz
  have hf : H s.heap.objs.size = none := I.hok.fresh (Nat.le_refl _)
  exact ⟨.ref s.heap.objs.size, upd H s.heap.objs.size (exo _ o), I.laid (t' := tk) kp' (Nat.le_refl _) ⟨g, ⟨_, g⟩, fun h1 h2 q z => z _ q⟩, rfl, k F _ _ (Xt.new st.sub hf) (st.new hf) (st.newD hf ok') (newIn hf)⟩
/-- where the pairs stand -/
theorem pair_items {ps : List (Addr × Str × V)} {zs : List (Str × Tok × Value)} {h : Heap} {us : List Value} (hl : zs.length = ps.length) (hz : ∀ (j : Nat) (p : Addr × Str × V) z, ps[j]? = some p → zs[j]? = some z → z.1 = p.2.1 ∧ PairAt h p.1 (.str z.1 z.2.1) z.2.2)
    (rv : Vals (ps.map fun p => V.ref p.1) us) : PairItems h us.toArray (fun j => ((ps[j]?).map (·.1)).getD 0) (zs.map fun z => (Value.str z.1 z.2.1, z.2.2)) := by
  refine ⟨by have := rv.length; simp only [List.length_map, List.size_toArray] at *; omega, fun j k v hj => ?_⟩
  rw [List.getElem?_map] at hj
  obtain ⟨z, hz1, e⟩ := Option.map_eq_some_iff.mp hj
  cases e
  have hlt : j < ps.length := by rw [← hl]; exact (List.getElem?_eq_some_iff.mp hz1).1
  have e1 : ps[j]? = some ps[j] := List.getElem?_eq_getElem hlt
  obtain ⟨u, hu, ru⟩ := rv.get (i := j) (x := .ref ps[j].1) (by rw [List.getElem?_map, e1]; rfl)
  cases ru
  dsimp only
  refine ⟨by rw [e1]; simpa using hu, ?_⟩
  rw [e1]
  exact (hz j _ _ e1 hz1).2
theorem pairs_have {zs : List (Str × Tok × Value)} : PairsHave (PySem.strKind X.prog X.w) (zs.map fun z => (Value.str z.1 z.2.1, z.2.2)).length (PairRel (zs.map fun z => (Value.str z.1 z.2.1, z.2.2))) (zs.map fun z => (z.1, z.2.2)) := by
  refine ⟨by simp, fun i key v hr => ?_⟩
  have hr : (zs.map fun z => (Value.str z.1 z.2.1, z.2.2))[i]? = some (key, v) := hr
  rw [List.getElem?_map] at hr
  obtain ⟨z, hz, e⟩ := Option.map_eq_some_iff.mp hr
  cases e
  refine ⟨z.1, by rw [List.getElem?_map, hz]; rfl, ?_⟩
  show Value.isStrOf z.1 (.str z.1 z.2.1) = true
  simp [Value.isStrOf]
theorem strong_tuple {p : Addr} {xs : List V} (I : L2.Inv X pins τ H s) (h : StT X.K H p xs) : ∃ (its : List Value) (o : Obj) (n : Nat), Vals xs its ∧ s.heap.get? p = some o ∧ o.cls = .type "tuple" ∧ o.dict = none ∧ o.data = .seq its.toArray n := by
  rcases h with ⟨o, e, d⟩ | ⟨o, its, n, h1, h2, h3, h4, h5, h6⟩
  · obtain ⟨g, _, its, rv, o', g', hc, n, hd⟩ := I.hok p _ e
    rw [g] at g'; cases g'
    exact ⟨its, o, n, rv, g, hc, d, hd⟩
  · exact ⟨its.toList, o, n, h6, I.kIn p o h1, h2, h3, by simpa using h4⟩
/-- dict(x), x.update(y): a row of pairs, as the library's argument -/
theorem call_dictD (hu : X.A.units + 200 < cLine) (hc : X.calm = true) : CallR X (.type "dict") (rBi X.w X.K (biS .dict)) := by
  intro pins s τ H xs us Q I rv ⟨F0, M0, H0, F, M, S, sl, σ, as, r, st, ha, e, k⟩
  unfold biS at e
  split at e <;> first | contradiction | skip
  obtain ⟨x, rfl, h⟩ := one_of ha
  split at e
  · rename_i ds hds
    split at e
    · rename_i kds hk
      split at e
      · rename_i hs
        cases e
        obtain ⟨u, rfl, rx⟩ := vals1' rv
        have lst : ∀ {p : Addr} {ys : List V}, SqL X.K H p ys → ys.length ≤ sizeLine → Rps X.K F ys ds → wpAny (model X.prog X.w) X.A (call (.type "dict") [.ref p]) (EP X pins τ Q) X.xe s := by
          intro p ys hp zz rr
          obtain ⟨ps, rfl, pr⟩ := pairs_rep hk hs rr
          obtain ⟨zs, z0, z1, z2⟩ := pairs_vals I st.sub pr
          obtain ⟨its, rv2, ⟨o, n, ho, hcl, hd0, hd⟩, _⟩ := I.list hp
          exact dict_arg hc (PairArg.list p its.toArray _ (zs.map fun z => (Value.str z.1 z.2.1, z.2.2))) ⟨⟨o, n, ho, hcl, hd0, hd⟩, pair_items z0 z2 rv2⟩ I st pairs_have z1 (by simp only [List.length_map, z0] at zz ⊢; exact zz) k
        unfold toSeq at hds
        split at hds
        · cases hds
          obtain ⟨p, ys, rfl, q, zz, rr⟩ := h.dat.lst_inv
          cases rx
          exact lst (SqL.of (st.sub _ _ q)) zz rr
        · cases hds
          obtain ⟨p, ys, rfl, q, zz, rr⟩ := h.dat.tup_inv2
          cases rx
          obtain ⟨ps, rfl, pr⟩ := pairs_rep hk hs rr
          obtain ⟨zs, z0, z1, z2⟩ := pairs_vals I st.sub pr
          obtain ⟨its, o, n, rv2, ho, hcl, hd0, hd⟩ := strong_tuple I (StT.sub st.sub q)
          exact dict_arg hc (PairArg.tuple p its.toArray _ (zs.map fun z => (Value.str z.1 z.2.1, z.2.2))) ⟨⟨o, n, ho, hcl, hd0, hd⟩, pair_items z0 z2 rv2⟩ I st pairs_have z1 (by simp only [List.length_map, z0] at zz ⊢; exact zz) k
        · cases hds
          have h2 := h.2
          unfold RSV at h2
          obtain ⟨p, rfl, zz, q⟩ := h2
          cases rx
          exact lst (SqL.sub st.sub q) (by rw [List.length_map]; exact zz) (intsRp _)
        · cases hds
          obtain ⟨p, rfl, _, _, _, vs, q, zz, rr⟩ := h
          cases rx
          exact lst (SqL.of q) zz rr
        · cases hds
          obtain ⟨p, rfl, _, _, vs, q, zz, rr⟩ := h
          cases rx
          exact lst (SqL.of q) zz rr
        · cases hds
      · cases e
    · cases e
  · cases e
end
end DL

/-! The data layer, part 7: the check of a written text against the program's own. -/
namespace DL
open PySem PySem.Spec PyProof.Rows L2

/-- the program: its defs, its constants' names -/
structure Pg where
  ds : Nat → Option Df
  gn : Nat → Option Str
/-- where one stands: the slots' names, the scope that runs, the names whose cells are one's own -/
structure Cn where
  N : List Str
  sc : Scope
  fn : Str → Bool
def isDbg (x : Str) : Bool := x == ("__debug__" : Str) || x == ("__classdict__" : Str) || x == ("__name__" : Str)
def visB (sc : Scope) (x : Str) : Bool := match sc.names.lookup x with
  | some .local => true
  | some .cell => true
  | some .free => true
  | _ => false
def glB (sc : Scope) (x : Str) : Bool := match sc.names.lookup x with
  | some .globalImplicit => !isDbg x
  | _ => false
def locB (c : Cn) (x : Str) : Bool := match c.sc.names.lookup x with
  | some .local => true
  | some .cell => c.fn x
  | _ => false
def slotB (c : Cn) (i : Nat) (x : Str) : Bool := decide (c.N[i]? = some x)
def plainIxB : Expr → Bool
  | .Name .. => true
  | .Constant .. => true
  | .Call .. => true
  | .BinOp .. => true
  | .UnaryOp .. => true
  | .Subscript .. => true
  | .IfExp .. => true
  | .Tuple .. => true
  | _ => false
def Ty.name : Ty → Str
  | .int => "int" | .str => "str" | .tuple => "tuple" | .list => "list" | .bool => "bool"
/-- the built-in's Python name; none: a form of its own -/
def Bi.name : Bi → Option Str
  | .len => some "len" | .tuple => some "tuple" | .list => some "list" | .all => some "all" | .any => some "any" | .int => some "int" | .str => some "str"
  | .sum => some "sum" | .max2 => some "max" | .min2 => some "min" | .sorted => some "sorted" | .dict => some "dict"
def Me.name : Me → Str
  | .upper => "upper" | .join => "join" | .split => "split"
def bltNames : List Str := ["len", "tuple", "list", "all", "any", "int", "str", "sum", "max", "min", "sorted", "dict", "set", "isinstance", "range", "zip", "enumerate", "bool"]
def Tg.ix : Tg → List Nat
  | .nm i => [i]
  | .tp is => is
  | .tq i is => i :: is
def chN (c : Cn) (i : Nat) : Expr → Bool
  | .Name x _ => slotB c i x && locB c x
  | _ => false
def chNs (c : Cn) : List Nat → List Expr → Bool
  | [], [] => true
  | i :: is, e :: es => chN c i e && chNs c is es
  | _, _ => false
def chG (c : Cn) : Tg → Expr → Bool
  | .nm i, e => chN c i e
  | .tp is, .Tuple es _ _ => chNs c is es
  | .tq i is, .Tuple [e, .Tuple es _ _] _ _ => chN c i e && chNs c is es
  | _, _ => false
/-- the block of a comprehension -/
def blkCn (c : Cn) (scope : Scope) : Cn := ⟨c.N, relS scope c.sc, fun x => scope.names.lookup x == some .cell⟩
def ownOf (N : List Str) (own : List Nat) : List (Str × Nat) := own.map fun i => (N.getD i "", i)
def ownB (N : List Str) (own : List Nat) : Bool := own.all fun i => decide (i < N.length)
def subNs (a b : List Nat) : Bool := a.all fun i => decide (i ∈ b)
def notIf : Expr → Bool
  | .IfExp .. => false
  | _ => true
/-- a base of a plain form -/
def plainO : Expr → Bool
  | .Name .. => true
  | .Constant .. => true
  | .Attribute .. => true
  | .Subscript .. => true
  | .BinOp .. => true
  | _ => false
mutual
def chE (G : Pg) (c : Cn) : Ex → Expr → Bool
  | .var i, .Name x _ => slotB c i x && visB c.sc x && !isDbg x
  | .glob g, .Name x _ => decide (G.gn g = some x) && glB c.sc x
  | .non, .Constant .none _ _ => true
  | .bl b, .Constant (.bool b') _ _ => b == b'
  | .int i, .Constant (.int j) _ _ => decide (i = j)
  | .str x, .Constant (.str y) _ _ => decide (x = y) && PyData.strOk x && decide (x.length ≤ 16777216)
  | .tup es, .Tuple as _ _ => chEs G c es as
  | .lst es, .List as _ => chEs G c es as
  | .cel es, .List as _ => chEs G c es as
  | .dnew, .Dict [] [] _ => true
  | .dset k v, .Dict [some a] [b] _ => chE G c k a && chE G c v b
  | .bop o a b, .BinOp x op y _ => decide (op = opOf o) && chE G c a x && chE G c b y
  | .cop o a b, .Compare x [op] [y] _ => decide (op = copOf o) && chE G c a x && chE G c b y && !behindInMarks op y
  | .chn o p a b d, .Compare x [op, op'] [y, z] _ => decide (op = copOf o) && decide (op' = copOf p) && chE G c a x && chE G c b y && chE G c d z && !lastMarks [op, op'] [y, z]
  | .neg a, .UnaryOp .USub x _ => chE G c a x
  | .and a b, .BoolOp .And (x :: y :: rest) pos => notIf x && notIf y && chE G c a x && (match rest with
    | [] => chE G c b y
    | _ => chE G c b (.BoolOp .And (y :: rest) pos))
  | .or a b, .BoolOp .Or (x :: y :: rest) pos => notIf x && notIf y && chE G c a x && (match rest with
    | [] => chE G c b y
    | _ => chE G c b (.BoolOp .Or (y :: rest) pos))
  | .not a, .UnaryOp .Not x _ => notIf x && chE G c a x
  | .ite t a b, .IfExp x y z _ => notIf x && chE G c t x && chE G c a y && chE G c b z
  | .sub a i, .Subscript x y _ => chE G c a x && chE G c i y && plainIxB y
  | .slc a lo hi, .Subscript x (.Slice l h none _) _ => chE G c a x && chO G c lo l && chO G c hi h
  | .rev a, .Subscript x (.Slice none none (some (.UnaryOp .USub (.Constant (.int 1) _ _) _)) _) _ => chE G c a x
  | .call f es, .Call (.Name x _) as [] _ => (match G.ds f with
    | some d => decide (d.name = x)
    | none => false) && glB c.sc x && chEs G c es as
  | .isi a t, .Call (.Name x _) [e, .Name y _] [] _ => decide (x = ("isinstance" : Str)) && glB c.sc x && chE G c a e && decide (y = t.name) && glB c.sc y
  | .bi b es, .Call (.Name x _) as [] _ => (match b.name with
    | some y => decide (y = x) && chEs G c es as
    | none => false) && glB c.sc x
  | .get2 o a b, .Call (.Attribute x nm apos) [y, z] [] pos => plainO x && chE G c o x && chE G c a y && chE G c b z && decide (apos.endLine = pos.line) && decide (nm = ("get" : Str))
  | .sset a, .Call (.Name x _) [.Call (.Name y _) [e] [] _] [] _ => decide (x = ("sorted" : Str)) && glB c.sc x && decide (y = ("set" : Str)) && glB c.sc y && chE G c a e
  | .min1 a, .Call (.Name x _) [e] [] _ => decide (x = ("min" : Str)) && glB c.sc x && chE G c a e
  | .sitm a, .Call (.Name x _) [.Call (.Attribute y nm apos) [] [] p3] [] _ => decide (x = ("sorted" : Str)) && glB c.sc x && decide (nm = ("items" : Str)) && plainO y && decide (apos.endLine = p3.line) && chE G c a y
  | .me m o es, .Call (.Attribute x nm apos) as [] pos => plainO x && chE G c o x && chEs G c es as && decide (apos.endLine = pos.line) && decide (nm = m.name)
  | .lc elt tg it cd own, .ListComp e [⟨t, i, ifs, 0⟩] scope _ => chI G c it t i && ownB c.N own && blkC c.N c.sc scope (ownOf c.N own) && chG (blkCn c scope) tg t && subNs tg.ix own && chC G (blkCn c scope) cd ifs && chE G (blkCn c scope) elt e
  | .lc2 elt tg it cd tg1 it1 cd1 own own1, .ListComp e [⟨t, i, ifs, 0⟩, ⟨t1, i1, ifs1, 0⟩] scope _ => chI G c it t i && ownB c.N own && blkC c.N c.sc scope (ownOf c.N own) && chG (blkCn c scope) tg t && subNs tg.ix own && chC G (blkCn c scope) cd ifs &&
      chI G (blkCn c scope) it1 t1 i1 && chG (blkCn c scope) tg1 t1 && subNs tg1.ix own1 && subNs own1 own && chC G (blkCn c scope) cd1 ifs1 && chE G (blkCn c scope) elt e
  | .dc k v tg it cd own, .DictComp ke ve [⟨t, i, ifs, 0⟩] scope _ => chI G c it t i && ownB c.N own && blkC c.N c.sc scope (ownOf c.N own) && chG (blkCn c scope) tg t && subNs tg.ix own && chC G (blkCn c scope) cd ifs && chE G (blkCn c scope) k ke && chE G (blkCn c scope) v ve
  | _, _ => false
def chEs (G : Pg) (c : Cn) : Exs → List Expr → Bool
  | .nil, [] => true
  | .cons e r, a :: as => chE G c e a && chEs G c r as
  | _, _ => false
def chO (G : Pg) (c : Cn) : Exo → Option Expr → Bool
  | .no, none => true
  | .yes e, some a => chE G c e a
  | _, _ => false
def chC (G : Pg) (c : Cn) : Exo → List Expr → Bool
  | .no, [] => true
  | .yes e, [a] => notIf a && chE G c e a
  | _, _ => false
/-- what is walked, for a target t -/
def chI (G : Pg) (c : Cn) : Itr → Expr → Expr → Bool
  | .seq e, _, a => chE G c e a
  | .rng e, _, .Call (.Name x _) [a] [] _ => decide (x = ("range" : Str)) && glB c.sc x && chE G c e a
  | .rng2 e f, _, .Call (.Name x _) [a, b] [] _ => decide (x = ("range" : Str)) && glB c.sc x && chE G c e a && chE G c f b
  | .zip e f, .Tuple .., .Call (.Name x _) [a, b] [] _ => decide (x = ("zip" : Str)) && glB c.sc x && chE G c e a && chE G c f b
  | .enm e, .Tuple .., .Call (.Name x _) [a] [] _ => decide (x = ("enumerate" : Str)) && glB c.sc x && chE G c e a
  | _, _, _ => false
end

/-! ### what the forms of syntax give -/
def notStar : Expr → Bool
  | .Starred .. => false
  | _ => true
theorem chE_ns {G : Pg} {c : Cn} {e : Ex} {a : Expr} (h : chE G c e a = true) : notStar a = true := by
  cases a <;> first | rfl | skip
  cases e <;> first | (simp [chE] at h; done) | skip
  all_goals (unfold chE at h; cases h)
theorem star_cons {e : Expr} {es : List Expr} {env : Env} (h : notStar e = true) : starEach (e :: es) env = (false, eval e env) :: starEach es env := by
  cases e <;> first | rfl | cases h
theorem star_one {e : Expr} {env : Env} (h : notStar e = true) : starEach [e] env = [(false, eval e env)] := by rw [star_cons h]; rfl
theorem chEs_ns {G : Pg} {c : Cn} : ∀ {es : Exs} {as : List Expr}, chEs G c es as = true → ∀ a ∈ as, notStar a = true
  | .nil, [], _, _, h => absurd h (by simp)
  | .nil, _ :: _, h, _, _ => by unfold chEs at h; cases h
  | .cons _ _, [], h, _, _ => by unfold chEs at h; cases h
  | .cons e r, a :: as, h, b, hb => by
    unfold chEs at h
    rw [Bool.and_eq_true] at h
    rcases List.mem_cons.mp hb with rfl | hb
    · exact chE_ns h.1
    · exact chEs_ns h.2 b hb
theorem star_plain {env : Env} {pos : Pos} : ∀ {es : List Expr}, (∀ a ∈ es, notStar a = true) → (backTo pos (starEach es env)).any (·.1) = false
  | [], _ => rfl
  | e :: es, h => by
    rw [star_cons (h e List.mem_cons_self)]
    have ih := star_plain (env := env) (pos := pos) (es := es) fun a ha => h a (List.mem_cons_of_mem _ ha)
    simpa [backTo] using ih
theorem plainIx_of {b : Expr} (h : plainIxB b = true) : PlainIx b := by
  intro o i
  cases b <;> first | rfl | cases h
end DL

/-! The data layer, part 8: readings; the rule of each construct. -/
namespace DL
open PySem PySem.Spec PyProof.Rows L2

/-- what a def promises: what call says -/
def spD (w : World) (K : Frg) (call : CallF) (f : Nat) : Sp := fun vs H Q _ => ∃ (F : Hp) (M : List Addr) (S : Store) (args : List SV) (r : SV) (S' : Store),
  Sub F H ∧ Cls K F M H S ∧ Paired (fun v s => s.free = true ∧ RSV w K H F M H v s) vs args ∧ call f args S = some (r, S') ∧ r.free = true ∧
    ∀ F' M' H' v, Xt F M H F' M' H' → Cls K F' M' H' S' → RSV w K H F' M' H' v r → Q v H'

structure Ctx (X : Cx) (G : Pg) (E : Ev) (k : Nat) : Prop where
  calm : X.calm = true
  nd : X.N.Nodup
  room : Room k X.A
  blt : ∀ x ∈ bltNames, X.mg x = none
  con : ∀ (g : Nat) x, G.gn g = some x → ∃ d u v, E.cs g = some d ∧ X.mg x = some u ∧ RelV v u ∧ Rp X.K (fun _ => none) v d
  fn : ∀ (f : Nat) d, G.ds f = some d → ∃ a fd, X.mg d.name = some (.ref a) ∧ PySem.W.keepIn X.K (.ref a) = true ∧ Binds X.K fd d.params [] ∧ FnOk X.prog X.w X.K X.mg X.base CX0 k a fd d.params (spD X.w X.K E.call f)
  free : ∀ f vs S r S', E.call f vs S = some (r, S') → r.free = true
structure CnOk (X : Cx) (c : Cn) : Prop where
  N : X.N = c.N
  sc : X.env.scope = c.sc
  fn : X.fn = c.fn
theorem Ctx.units {X : Cx} {G : Pg} {E : Ev} {k : Nat} (T : Ctx X G E k) : X.A.units + 200 < cLine := by have := T.room.un; omega
theorem Ctx.blk {X : Cx} {G : Pg} {E : Ev} {k : Nat} (T : Ctx X G E k) (s : Shared) (H : Hp) (scope : Scope) (cenv : Env) (fp : List Addr) : Ctx (X.blk s H scope cenv fp) G E k :=
  ⟨T.calm, T.nd, T.room, T.blt, T.con, T.fn, T.free⟩
theorem CnOk.blk {X : Cx} {c : Cn} (h : CnOk X c) (s : Shared) (H : Hp) (scope : Scope) (C : Addr) (cl : List (Str × Addr)) (fp : List Addr) : CnOk (X.blk s H scope (compEnvC scope cl C X.env) fp) (blkCn c scope) :=
  ⟨h.N, by show relS scope X.env.scope = _; rw [h.sc]; rfl, rfl⟩

section
variable (w : World) (K : Frg)
/-- an expression -/
def tM (m : Slots → Store → Option (RV × Store)) : TE := fun σ H Q => ∃ (F0 : Hp) (M0 : List Addr) (H0 F : Hp) (M : List Addr) (S : Store) (sl : Slots) (r : RV) (S' : Store),
  Stt w K F0 M0 H0 F M S sl σ H ∧ m sl S = some (r, S') ∧ ∀ F' M' H' v, Xt F M H F' M' H' → Stt w K F0 M0 H0 F' M' S' sl σ H' → RRV w K H0 F' M' H' v r → NewIn H v r → Q v H'
/-- .. and frozen -/
def tX (m : Slots → Store → Option (SV × Store)) : TE := fun σ H Q => ∃ (F0 : Hp) (M0 : List Addr) (H0 F : Hp) (M : List Addr) (S : Store) (sl : Slots) (r : SV) (S' : Store),
  Stt w K F0 M0 H0 F M S sl σ H ∧ m sl S = some (r, S') ∧ ∀ F' M' H' v, Xt F M H F' M' H' → Stt w K F0 M0 H0 F' M' S' sl σ H' → r.free = true → RSV w K H0 F' M' H' v r → Q v H'
/-- a test -/
def tT (m : Slots → Store → Option (Bool × Store)) : TT := fun σ H Q => ∃ (F0 : Hp) (M0 : List Addr) (H0 F : Hp) (M : List Addr) (S : Store) (sl : Slots) (b : Bool) (S' : Store),
  Stt w K F0 M0 H0 F M S sl σ H ∧ m sl S = some (b, S') ∧ ∀ F' M' H', Xt F M H F' M' H' → Stt w K F0 M0 H0 F' M' S' sl σ H' → Q b H'
/-- several values: new ones stood nowhere before their turn -/
def Fresh : Hp → List V → List RV → Prop
  | _, [], [] => True
  | H, v :: vs, r :: rs => NewIn H v r ∧ ∃ H1, (∀ a, H a ≠ none → H1 a ≠ none) ∧ (∀ a o, v = .ref a → r = .new o → H1 a ≠ none) ∧ Fresh H1 vs rs
  | _, _, _ => False
/-- arguments -/
def tAs (m : Slots → Store → Option (List RV × Store)) : TA := fun σ H Q => ∃ (F0 : Hp) (M0 : List Addr) (H0 F : Hp) (M : List Addr) (S : Store) (sl : Slots) (rs : List RV) (S' : Store),
  Stt w K F0 M0 H0 F M S sl σ H ∧ m sl S = some (rs, S') ∧ ∀ F' M' H' vs, Xt F M H F' M' H' → Stt w K F0 M0 H0 F' M' S' sl σ H' → RRs w K H0 F' M' H' vs rs → Fresh H vs rs → Q vs H'
abbrev RSs (H0 F : Hp) (M : List Addr) (H : Hp) : List V → List SV → Prop := Paired fun v s => s.free = true ∧ RSV w K H0 F M H v s
def tAx (m : Slots → Store → Option (List SV × Store)) : TA := fun σ H Q => ∃ (F0 : Hp) (M0 : List Addr) (H0 F : Hp) (M : List Addr) (S : Store) (sl : Slots) (rs : List SV) (S' : Store),
  Stt w K F0 M0 H0 F M S sl σ H ∧ m sl S = some (rs, S') ∧ ∀ F' M' H' vs, Xt F M H F' M' H' → Stt w K F0 M0 H0 F' M' S' sl σ H' → RSs w K H0 F' M' H' vs rs → Q vs H'
/-- a slice's bound -/
def tOb (m : Slots → Store → Option (Option Int × Store)) : TO := fun σ H Q => ∃ (F0 : Hp) (M0 : List Addr) (H0 F : Hp) (M : List Addr) (S : Store) (sl : Slots) (b : Option Int) (S' : Store),
  Stt w K F0 M0 H0 F M S sl σ H ∧ m sl S = some (b, S') ∧ ∀ F' M' H', Xt F M H F' M' H' → Stt w K F0 M0 H0 F' M' S' sl σ H' → Q b H'
def tI (m : Slots → Store → Option (List D × Store)) : TI := fun σ H R => ∃ (F0 : Hp) (M0 : List Addr) (H0 F : Hp) (M : List Addr) (S : Store) (sl : Slots) (ds : List D) (S' : Store),
  Stt w K F0 M0 H0 F M S sl σ H ∧ m sl S = some (ds, S') ∧ ∀ F' M' H' J, Xt F M H F' M' H' → Stt w K F0 M0 H0 F' M' S' sl σ H' → WkD K F' J ds → R J H'
/-- a target -/
def tG (tg : Tg) : TG := fun v σ H Q => ∃ (F0 : Hp) (M0 : List Addr) (H0 F : Hp) (M : List Addr) (S : Store) (sl : Slots) (d : SV) (sl' : Slots),
  Stt w K F0 M0 H0 F M S sl σ H ∧ d.free = true ∧ RSV w K H0 F M H v d ∧ asgT tg d sl = some sl' ∧ ∀ σ', (∀ vs : List Nat, (∀ i ∈ tg.ix, i ∈ vs) → wipe σ' vs = wipe σ vs) → Stt w K F0 M0 H0 F M S sl' σ' H → Q σ' H
end

theorem PE.imp {X : Cx} {e : Expr} {t t' : TE} (h : PE X e t) (i : ∀ σ H Q, t' σ H Q → t σ H Q) : PE X e t' := ⟨fun pins s σ H Q I hq => h.run pins s σ H Q I (i _ _ _ hq)⟩
theorem PT.imp {X : Cx} {e : Expr} {t t' : TT} (h : PT X e t) (i : ∀ σ H Q, t' σ H Q → t σ H Q) : PT X e t' := ⟨fun pins s σ H Q I hq => h.run pins s σ H Q I (i _ _ _ hq)⟩
theorem PA.imp {X : Cx} {e : List Expr} {t t' : TA} (h : PA X e t) (i : ∀ σ H Q, t' σ H Q → t σ H Q) : PA X e t' := ⟨fun pos pins s σ H Q I hq => h.run pos pins s σ H Q I (i _ _ _ hq)⟩
theorem PO.imp {X : Cx} {e : Option Expr} {t t' : TO} (h : PO X e t) (i : ∀ σ H Q, t' σ H Q → t σ H Q) : PO X e t' := ⟨fun pins s σ H Q I hq => h.run pins s σ H Q I (i _ _ _ hq)⟩
theorem PI.imp {X : Cx} {g e : Expr} {t t' : TI} (h : PI X g e t) (i : ∀ σ H Q, t' σ H Q → t σ H Q) : PI X g e t' := ⟨fun pins s σ H Q I hq => h.run pins s σ H Q I (i _ _ _ hq)⟩

/-! ### from parts to wholes, by readings alone -/
section
variable {w : World} {K : Frg} {σ : L2.St} {H : Hp} {Q : VK} {F0 H0 F : Hp} {M0 M : List Addr} {S S1 : Store} {sl : Slots}
theorem tM_then {m : Slots → Store → Option (RV × Store)} {r : RV} {P : V → Hp → Prop} (st : Stt w K F0 M0 H0 F M S sl σ H) (e : m sl S = some (r, S1))
    (k : ∀ F1 M1 H1 v, Xt F M H F1 M1 H1 → Stt w K F0 M0 H0 F1 M1 S1 sl σ H1 → RRV w K H0 F1 M1 H1 v r → NewIn H v r → P v H1) : tM w K m σ H P := ⟨F0, M0, H0, F, M, S, sl, r, S1, st, e, k⟩
theorem tX_then {m : Slots → Store → Option (SV × Store)} {r : SV} {P : V → Hp → Prop} (st : Stt w K F0 M0 H0 F M S sl σ H) (e : m sl S = some (r, S1))
    (k : ∀ F1 M1 H1 v, Xt F M H F1 M1 H1 → Stt w K F0 M0 H0 F1 M1 S1 sl σ H1 → r.free = true → RSV w K H0 F1 M1 H1 v r → P v H1) : tX w K m σ H P := ⟨F0, M0, H0, F, M, S, sl, r, S1, st, e, k⟩
theorem tA_then {r : List RV} {m : Slots → Store → Option (List RV × Store)} {P : List V → Hp → Prop} (st : Stt w K F0 M0 H0 F M S sl σ H) (e : m sl S = some (r, S1))
    (k : ∀ F1 M1 H1 v, Xt F M H F1 M1 H1 → Stt w K F0 M0 H0 F1 M1 S1 sl σ H1 → RRs w K H0 F1 M1 H1 v r → Fresh H v r → P v H1) : tAs w K m σ H P := ⟨F0, M0, H0, F, M, S, sl, r, S1, st, e, k⟩
theorem tAx_then {r : List SV} {m : Slots → Store → Option (List SV × Store)} {P : List V → Hp → Prop} (st : Stt w K F0 M0 H0 F M S sl σ H) (e : m sl S = some (r, S1))
    (k : ∀ F1 M1 H1 v, Xt F M H F1 M1 H1 → Stt w K F0 M0 H0 F1 M1 S1 sl σ H1 → RSs w K H0 F1 M1 H1 v r → P v H1) : tAx w K m σ H P := ⟨F0, M0, H0, F, M, S, sl, r, S1, st, e, k⟩
theorem tT_then {r : Bool} {m : Slots → Store → Option (Bool × Store)} {P : Bool → Hp → Prop} (st : Stt w K F0 M0 H0 F M S sl σ H) (e : m sl S = some (r, S1))
    (k : ∀ F1 M1 H1, Xt F M H F1 M1 H1 → Stt w K F0 M0 H0 F1 M1 S1 sl σ H1 → P r H1) : tT w K m σ H P := ⟨F0, M0, H0, F, M, S, sl, r, S1, st, e, k⟩
theorem tO_then {r : Option Int} {m : Slots → Store → Option (Option Int × Store)} {P : Option Int → Hp → Prop} (st : Stt w K F0 M0 H0 F M S sl σ H) (e : m sl S = some (r, S1))
    (k : ∀ F1 M1 H1, Xt F M H F1 M1 H1 → Stt w K F0 M0 H0 F1 M1 S1 sl σ H1 → P r H1) : tOb w K m σ H P := ⟨F0, M0, H0, F, M, S, sl, r, S1, st, e, k⟩
theorem tI_then {r : List D} {m : Slots → Store → Option (List D × Store)} {P : It → Hp → Prop} (st : Stt w K F0 M0 H0 F M S sl σ H) (e : m sl S = some (r, S1))
    (k : ∀ F1 M1 H1 J, Xt F M H F1 M1 H1 → Stt w K F0 M0 H0 F1 M1 S1 sl σ H1 → WkD K F1 J r → P J H1) : tI w K m σ H P := ⟨F0, M0, H0, F, M, S, sl, r, S1, st, e, k⟩
theorem RRs.xt {F' H' : Hp} {M' : List Addr} (x : Xt F M H F' M' H') {vs : List V} {rs : List RV} (h : RRs w K H0 F M H vs rs) : RRs w K H0 F' M' H' vs rs := Paired.mapP h fun _ _ z => z.xt x
theorem RSs.xt {F' H' : Hp} {M' : List Addr} (x : Xt F M H F' M' H') {vs : List V} {rs : List SV} (h : RSs w K H0 F M H vs rs) : RSs w K H0 F' M' H' vs rs := Paired.mapP h fun _ _ z => ⟨z.1, z.2.xt x⟩
/-- freezing a new value costs nothing -/
theorem fz_step {F1 H1 : Hp} {M1 : List Addr} {r : RV} {s : SV} {v : V} (st : Stt w K F0 M0 H0 F M S sl σ H) (x : Xt F M H F1 M1 H1) (st1 : Stt w K F0 M0 H0 F1 M1 S1 sl σ H1) (h : RRV w K H0 F1 M1 H1 v r) (n : NewIn H v r) (e : fzR r = some s) :
    ∃ F', Xt F M H F' M1 H1 ∧ Stt w K F0 M0 H0 F' M1 S1 sl σ H1 ∧ s.free = true ∧ RSV w K H0 F' M1 H1 v s := by
  unfold fzR at e
  split at e
  · cases e
    exact ⟨F1, x, st1, h.1, h.2⟩
  · cases e
    rename_i o
    obtain ⟨a, rfl, h0, fa, ma, oa⟩ := h
    have na : H a = none := n a rfl
    obtain ⟨u, hu⟩ : ∃ u, H1 a = some u := by
      cases q : H1 a with
      | none => exact absurd q oa.some
      | some u => exact ⟨u, rfl⟩
    have sF : Sub F1 (upd F1 a u) := fun b z e => by rw [upd_ne (ne_of_none e fa)]; exact e
    have xx : Xt F M H (upd F1 a u) M1 H1 := ⟨x.keep, x.there, x.frz.trans sF, Sub.put x.sub hu, fun b e1 e2 => by rw [upd_ne (fun (z : b = a) => e2 (by rw [z]; exact na))]; exact x.own b e1 e2, x.cel⟩
    have cls : Cls K (upd F1 a u) M1 H1 S1 := st1.cls.mono sF (fun b hb => by rw [upd_ne (fun (z : b = a) => ma (by rw [← z]; exact hb))]; exact (st1.cls.mem_some hb).1) fun _ _ => rfl
    refine ⟨upd F1 a u, xx, st.xt xx cls, OV.fz_free o, ?_⟩
    cases o with
    | lst ds =>
      obtain ⟨vs, q, z, rr⟩ := oa
      rw [hu] at q; cases q
      show RSV w K H0 _ M1 H1 (.ref a) (.val (.list ds))
      unfold RSV
      exact .lst upd_same z (Rps.sub sF rr)
    | dct kvs =>
      obtain ⟨o, ks, vs, q, d, r1, r2⟩ := oa
      rw [hu] at q; cases q
      show RSV w K H0 _ M1 H1 (.ref a) (.dct kvs)
      unfold RSV
      exact ⟨a, rfl, o, ks, vs, upd_same, d, Rps.sub sF r1, Rps.sub sF r2⟩
  · cases e
theorem fz_inv {z : Option (RV × Store)} {s : SV} {S : Store} (h : fz? z = some (s, S)) : ∃ r, z = some (r, S) ∧ fzR r = some s := by
  unfold fz? at h
  split at h
  · split at h
    · cases h; exact ⟨_, rfl, by assumption⟩
    · cases h
  · cases h
theorem dat_inv {z : Option (SV × Store)} {d : D} {S : Store} (h : dat? z = some (d, S)) : z = some (.val d, S) := by
  unfold dat? at h
  split at h
  · cases h; rfl
  · cases h
theorem int_inv {z : Option (RV × Store)} {d : Int} {S : Store} (h : int? z = some (d, S)) : z = some (.sv (.val (.int d)), S) := by
  unfold int? at h
  split at h
  · cases h; rfl
  · cases h
theorem bool_inv {z : Option (RV × Store)} {d : Bool} {S : Store} (h : bool? z = some (d, S)) : z = some (.sv (.val (.bool d)), S) := by
  unfold bool? at h
  split at h
  · cases h; rfl
  · cases h
/-- an expression whose value is frozen -/
theorem tX_of {m : Slots → Store → Option (RV × Store)} (h : tX w K (fun sl S => fz? (m sl S)) σ H Q) : tM w K m σ H Q := by
  obtain ⟨F0, M0, H0, F, M, S, sl, r, S1, st, e, k⟩ := h
  obtain ⟨r', e1, e2⟩ := fz_inv e
  refine tM_then st e1 fun F1 M1 H1 v x st1 rr n => ?_
  obtain ⟨F', x', st', f, q⟩ := fz_step st x st1 rr n e2
  exact k F' M1 H1 v x' st' f q
theorem dat_rp {F H : Hp} {M : List Addr} {v : V} {d : D} (h : RSV w K H0 F M H v (.val d)) : Rp K F v d := by unfold RSV at h; exact h
theorem rsv_d {F H : Hp} {M : List Addr} {v : V} {d : D} (h : Rp K F v d) : RSV w K H0 F M H v (.val d) := by unfold RSV; exact h
theorem opt2_inv {f : RV → RV → Option RV} {r z : RV} {q : Option (RV × Store)} {S : Store} (h : opt2 f r q = some (z, S)) : ∃ y, q = some (y, S) ∧ f r y = some z := by
  unfold opt2 at h
  split at h
  · obtain ⟨z', e, e2⟩ := Option.map_eq_some_iff.mp h
    cases e2
    exact ⟨_, rfl, e⟩
  · cases h
/-- two operands, an operator -/
theorem tOp_of {f : RV → RV → Option RV} {m1 m2 : Slots → Store → Option (RV × Store)}
    (h : tM w K (fun sl S => match m1 sl S with | some (r, S1) => opt2 f r (m2 sl S1) | none => none) σ H Q) : tOp (rP w K f) (tM w K m1) (tM w K m2) σ H Q := by
  obtain ⟨F0, M0, H0, F, M, S, sl, r, S', st, e, k⟩ := h
  cases e1 : m1 sl S with
  | none => simp [e1] at e
  | some p =>
    obtain ⟨x, S1⟩ := p
    simp only [e1] at e
    obtain ⟨y, e2, e3⟩ := opt2_inv e
    exact tM_then st e1 fun F1 M1 H1 v1 x1 st1 r1 n1 => tM_then st1 e2 fun F2 M2 H2 v2 x2 st2 r2 n2 =>
      ⟨F0, M0, H0, F2, M2, _, sl, σ, x, y, r, st2, r1.xt x2, r2, e3, fun F' H' v x3 st' r3 n3 => k F' M2 H' v (x1.trans (x2.trans x3)) st' r3 (n3.xt (x1.trans x2))⟩
end
end DL

/-! The data layer, part 9: the rules, construct by construct. -/
namespace DL
open PySem PySem.Spec PyProof.Rows L2

section
variable {X : Cx} {G : Pg} {E : Ev} {k : Nat} {c : Cn}
theorem CnOk.slot (C : CnOk X c) {i : Nat} {x : Str} (h : slotB c i x = true) : X.N[i]? = some x := by rw [C.N]; exact of_decide_eq_true h
theorem CnOk.vis (C : CnOk X c) {x : Str} (h : visB c.sc x = true) : Vis X.env.scope x := by
  rw [C.sc]
  unfold visB at h
  unfold Vis
  split at h
  · exact .inl (by assumption)
  · exact .inr (.inl (by assumption))
  · exact .inr (.inr (by assumption))
  · cases h
theorem CnOk.gl (C : CnOk X c) {x : Str} (h : glB c.sc x = true) : Gl X x ∧ isDbg x = false := by
  unfold glB at h
  split at h
  · refine ⟨?_, by simpa using h⟩
    show X.env.scope.names.lookup x = _
    rw [C.sc]
    assumption
  · cases h
theorem dbg1 {x : Str} (h : isDbg x = false) : (x == ("__debug__" : Str)) = false := by unfold isDbg at h; simp only [Bool.or_eq_false_iff] at h; exact h.1.1
theorem dbg2 {x : Str} (h : isDbg x = false) : (x == ("__classdict__" : Str)) = false := by unfold isDbg at h; simp only [Bool.or_eq_false_iff] at h; exact h.1.2
theorem dbg3 {x : Str} (h : isDbg x = false) : x ≠ "__name__" := by unfold isDbg at h; simp only [Bool.or_eq_false_iff] at h; intro z; subst z; simp at h
theorem RSV.nonown {w : World} {K : Frg} {H0 F H : Hp} {M : List Addr} {v : V} {sv : SV} (h : RSV w K H0 F M H v sv) : True := trivial
theorem Rp.sub0 {K : Frg} {F : Hp} {v : V} {d : D} (h : Rp K (fun _ => none) v d) : Rp K F v d := Rp.sub (fun _ _ e => by cases e) h

/-! ### leaves -/
theorem r_var (C : CnOk X c) {i : Nat} {x : Str} {pos : Pos} (h1 : slotB c i x = true) (h2 : visB c.sc x = true) (h3 : isDbg x = false) : PE X (.Name x pos) (tM X.w X.K fun sl S => evE E sl S (.var i)) := by
  refine PE.imp (pe_var (i := i) (C.slot h1) (C.vis h2) (dbg1 h3) (dbg2 h3)) fun σ H Q hh => ?_
  obtain ⟨F0, M0, H0, F, M, S, sl, r, S', st, e, kk⟩ := hh
  dsimp only at e
  unfold evE at e
  split at e
  · cases e
    obtain ⟨v, e1, e2⟩ := st.slots i _ (by assumption)
    refine ⟨v, e1, kk F M H v (Xt.refl st.sub) st ?_ trivial⟩
    unfold RSV at e2
    obtain ⟨a, e, _, q⟩ := e2
    exact ⟨a, e, q⟩
  · split at e
    · cases e
      obtain ⟨v, e1, e2⟩ := st.slots i _ (by assumption)
      exact ⟨v, e1, kk F M H v (Xt.refl st.sub) st ⟨by assumption, e2⟩ trivial⟩
    · cases e
  · cases e
theorem const_imp {w : World} {K : Frg} {m : Slots → Store → Option (RV × Store)} {v : V} {d : D} (hm : ∀ sl S, m sl S = some (.sv (.val d), S)) (hd : ∀ F, Rp K F v d) (σ : L2.St) (H : Hp) (Q : VK) (h : tM w K m σ H Q) : tC v σ H Q := by
  obtain ⟨F0, M0, H0, F, M, S, sl, r, S', st, e, kk⟩ := h
  rw [hm] at e
  cases e
  exact kk F M H v (Xt.refl st.sub) st (RRV.ofd (hd F)) trivial
theorem r_glob (T : Ctx X G E k) (C : CnOk X c) {g : Nat} {x : Str} {pos : Pos} (h1 : G.gn g = some x) (h2 : glB c.sc x = true) : PE X (.Name x pos) (tM X.w X.K fun sl S => evE E sl S (.glob g)) := by
  obtain ⟨d, u, v, e1, e2, rv, rp⟩ := T.con g x h1
  obtain ⟨gl, db⟩ := C.gl h2
  refine PE.imp (pe_glob gl e2 rv (dbg1 db)) (const_imp (d := d) (fun sl S => ?_) fun F => Rp.sub0 rp)
  unfold evE
  rw [e1]
theorem r_non {j : Nat} {pos : Pos} : PE X (.Constant .none j pos) (tM X.w X.K fun sl S => evE E sl S .non) := PE.imp pe_non (const_imp (fun sl S => by unfold evE; rfl) fun F => .non)
theorem r_bl {b : Bool} {j : Nat} {pos : Pos} : PE X (.Constant (.bool b) j pos) (tM X.w X.K fun sl S => evE E sl S (.bl b)) := PE.imp pe_bl (const_imp (fun sl S => by unfold evE; rfl) fun F => .bl b)
theorem r_int {b : Int} {j : Nat} {pos : Pos} : PE X (.Constant (.int b) j pos) (tM X.w X.K fun sl S => evE E sl S (.int b)) := PE.imp pe_int (const_imp (fun sl S => by unfold evE; rfl) fun F => .int b)
theorem r_str {b : Str} {j : Nat} {pos : Pos} (h1 : PyData.strOk b = true) (h2 : b.length ≤ 16777216) : PE X (.Constant (.str b) j pos) (tM X.w X.K fun sl S => evE E sl S (.str b)) :=
  PE.imp pe_str (const_imp (fun sl S => by unfold evE; rfl) fun F => .str h1 (by rw [sizeLine_eq]; exact h2))

/-! ### operators -/
theorem r_bop {o : BOp} {a b : Ex} {x y : Expr} {pos : Pos} (ha : PE X x (tM X.w X.K fun sl S => evE E sl S a)) (hb : PE X y (tM X.w X.K fun sl S => evE E sl S b)) : PE X (.BinOp x (opOf o) y pos) (tM X.w X.K fun sl S => evE E sl S (.bop o a b)) := by
  refine PE.imp (pe_op (op_bop o) ha hb) fun σ H Q hh => tOp_of ?_
  obtain ⟨F0, M0, H0, F, M, S, sl, r, S', st, e, kk⟩ := hh
  dsimp only at e
  unfold evE at e
  exact ⟨F0, M0, H0, F, M, S, sl, r, S', st, e, kk⟩
theorem r_cop (T : Ctx X G E k) {o : COp} {a b : Ex} {x y : Expr} {pos : Pos} (ha : PE X x (tM X.w X.K fun sl S => evE E sl S a)) (hb : PE X y (tM X.w X.K fun sl S => evE E sl S b)) (hm : behindInMarks (copOf o) y = false) :
    PE X (.Compare x [copOf o] [y] pos) (tM X.w X.K fun sl S => evE E sl S (.cop o a b)) := by
  have := T.units
  refine PE.imp (pe_cmpR (op_cop (by omega) o) ha hb hm) fun σ H Q hh => tOp_of ?_
  obtain ⟨F0, M0, H0, F, M, S, sl, r, S', st, e, kk⟩ := hh
  dsimp only at e
  unfold evE at e
  exact ⟨F0, M0, H0, F, M, S, sl, r, S', st, e, kk⟩
theorem rP_bool {w : World} {K : Frg} {f : RV → RV → Option Bool} {x y : V} {H : Hp} {Q : VK} (h : rP w K (bR f) x y H fun z H' => ∃ b, z = .bl b ∧ Q (.bl b) H') : rP w K (bR f) x y H Q := by
  obtain ⟨F0, M0, H0, F, M, S, sl, σ, a, b, r, st, ha, hb, e, kk⟩ := h
  refine ⟨F0, M0, H0, F, M, S, sl, σ, a, b, r, st, ha, hb, e, fun F' H' v x st' r' n => ?_⟩
  obtain ⟨b, rfl, q⟩ := kk F' H' v x st' r' n
  exact q
theorem chn_imp {w : World} {K : Frg} {o p : COp} {a b d : Ex} {σ : L2.St} {H : Hp} {Q : VK} (hh : tM w K (fun sl S => evE E sl S (.chn o p a b d)) σ H Q) :
    tChain (rP w K (bR (copS o))) (rP w K (bR (copS p))) (tM w K fun sl S => evE E sl S a) (tM w K fun sl S => evE E sl S b) (tM w K fun sl S => evE E sl S d) σ H Q := by
  obtain ⟨F0, M0, H0, F, M, S, sl, r, S', st, e, kk⟩ := hh
  dsimp only at e
  unfold evE at e
  split at e
  · rename_i va S1 e1
    split at e
    · rename_i vb S2 e2
      refine tM_then st e1 fun F1 M1 H1 v1 x1 st1 r1 n1 => tM_then st1 e2 fun F2 M2 H2 v2 x2 st2 r2 n2 => ?_
      split at e
      · rename_i e3
        refine ⟨F0, M0, H0, F2, M2, _, sl, σ, va, vb, .sv (.val (.bool true)), st2, r1.xt x2, r2, by show (copS o va vb).map _ = _; rw [e3]; rfl, fun F' H' v x3 st' r3 n3 => ⟨true, r3.dat.bl_inv, ?_⟩⟩
        rw [if_pos rfl]
        obtain ⟨vc, e4, e5⟩ := opt2_inv e
        refine tM_then st' e4 fun F4 M4 H4 v4 x4 st4 r4 n4 => ⟨F0, M0, H0, F4, M4, _, sl, σ, vb, vc, r, st4, (r2.xt x3).xt x4, r4, e5, fun F' H' v x5 st5 r5 n5 => ?_⟩
        exact kk F' M4 H' v (((x1.trans x2).trans x3).trans (x4.trans x5)) st5 r5 (n5.xt (((x1.trans x2).trans x3).trans x4))
      · rename_i e3
        cases e
        refine ⟨F0, M0, H0, F2, M2, _, sl, σ, va, vb, .sv (.val (.bool false)), st2, r1.xt x2, r2, by show (copS o va vb).map _ = _; rw [e3]; rfl, fun F' H' v x3 st' r3 n3 => ⟨false, r3.dat.bl_inv, ?_⟩⟩
        rw [if_neg Bool.false_ne_true]
        exact kk F' M2 H' _ ((x1.trans x2).trans x3) st' (RRV.bl_ false) trivial
      · cases e
    · cases e
  · cases e
theorem r_chn (T : Ctx X G E k) {o p : COp} {a b d : Ex} {x y z : Expr} {pos : Pos} (ha : PE X x (tM X.w X.K fun sl S => evE E sl S a)) (hb : PE X y (tM X.w X.K fun sl S => evE E sl S b)) (hd : PE X z (tM X.w X.K fun sl S => evE E sl S d))
    (hm : lastMarks [copOf o, copOf p] [y, z] = false) : PE X (.Compare x [copOf o, copOf p] [y, z] pos) (tM X.w X.K fun sl S => evE E sl S (.chn o p a b d)) := by
  have := T.units
  exact PE.imp (pe_chain (op_cop (by omega) o) (op_cop (by omega) p) ha hb hd hm) fun σ H Q hh => chn_imp hh
theorem r_neg {a : Ex} {x : Expr} {pos : Pos} (ha : PE X x (tM X.w X.K fun sl S => evE E sl S a)) : PE X (.UnaryOp .USub x pos) (tM X.w X.K fun sl S => evE E sl S (.neg a)) := by
  refine PE.imp (pe_un un_neg ha) fun σ H Q hh => ?_
  obtain ⟨F0, M0, H0, F, M, S, sl, r, S', st, e, kk⟩ := hh
  dsimp only at e
  unfold evE at e
  split at e
  · rename_i i S1 e1
    cases e
    refine tM_then st (int_inv e1) fun F1 M1 H1 v1 x1 st1 r1 n1 => ?_
    cases r1.dat.int_inv
    exact ⟨i, rfl, kk F1 M1 H1 _ x1 st1 (RRV.int_ _) trivial⟩
  · cases e
theorem r_and {a b : Ex} {x y : Expr} {rest : List Expr} {pos : Pos} (ha : PE X x (tM X.w X.K fun sl S => evE E sl S a)) (hb : PE X (.BoolOp .And (y :: rest) pos) (tM X.w X.K fun sl S => evE E sl S b)) :
    PE X (.BoolOp .And (x :: y :: rest) pos) (tM X.w X.K fun sl S => evE E sl S (.and a b)) := by
  refine PE.imp (pe_and ha hb) fun σ H Q hh => ?_
  obtain ⟨F0, M0, H0, F, M, S, sl, r, S', st, e, kk⟩ := hh
  dsimp only at e
  unfold evE at e
  split at e
  · rename_i S1 e1
    split at e
    · rename_i v S2 e2
      cases e
      refine tM_then st (bool_inv e1) fun F1 M1 H1 v1 x1 st1 r1 n1 => ⟨true, r1.dat.bl_inv, ?_⟩
      rw [if_pos rfl]
      exact tX_of (tX_then st1 e2 fun F2 M2 H2 v2 x2 st2 f q => kk F2 M2 H2 v2 (x1.trans x2) st2 ⟨f, q⟩ trivial)
    · cases e
  · rename_i S1 e1
    cases e
    refine tM_then st (bool_inv e1) fun F1 M1 H1 v1 x1 st1 r1 n1 => ⟨false, r1.dat.bl_inv, ?_⟩
    rw [if_neg Bool.false_ne_true]
    exact kk F1 M1 H1 _ x1 st1 (RRV.bl_ false) trivial
  · cases e
theorem r_or {a b : Ex} {x y : Expr} {rest : List Expr} {pos : Pos} (ha : PE X x (tM X.w X.K fun sl S => evE E sl S a)) (hb : PE X (.BoolOp .Or (y :: rest) pos) (tM X.w X.K fun sl S => evE E sl S b)) :
    PE X (.BoolOp .Or (x :: y :: rest) pos) (tM X.w X.K fun sl S => evE E sl S (.or a b)) := by
  refine PE.imp (pe_or ha hb) fun σ H Q hh => ?_
  obtain ⟨F0, M0, H0, F, M, S, sl, r, S', st, e, kk⟩ := hh
  dsimp only at e
  unfold evE at e
  split at e
  · rename_i S1 e1
    split at e
    · rename_i v S2 e2
      cases e
      refine tM_then st (bool_inv e1) fun F1 M1 H1 v1 x1 st1 r1 n1 => ⟨false, r1.dat.bl_inv, ?_⟩
      rw [if_neg Bool.false_ne_true]
      exact tX_of (tX_then st1 e2 fun F2 M2 H2 v2 x2 st2 f q => kk F2 M2 H2 v2 (x1.trans x2) st2 ⟨f, q⟩ trivial)
    · cases e
  · rename_i S1 e1
    cases e
    refine tM_then st (bool_inv e1) fun F1 M1 H1 v1 x1 st1 r1 n1 => ⟨true, r1.dat.bl_inv, ?_⟩
    rw [if_pos rfl]
    exact kk F1 M1 H1 _ x1 st1 (RRV.bl_ true) trivial
  · cases e
theorem r_one {op : BoolOp} {a : Ex} {x : Expr} {pos : Pos} (ha : PE X x (tM X.w X.K fun sl S => evE E sl S a)) : PE X (.BoolOp op [x] pos) (tM X.w X.K fun sl S => evE E sl S a) := pe_one ha
theorem r_not {a : Ex} {x : Expr} {pos : Pos} (ha : PE X x (tM X.w X.K fun sl S => evE E sl S a)) : PE X (.UnaryOp .Not x pos) (tM X.w X.K fun sl S => evE E sl S (.not a)) := by
  refine PE.imp (pe_not ha) fun σ H Q hh => ?_
  obtain ⟨F0, M0, H0, F, M, S, sl, r, S', st, e, kk⟩ := hh
  dsimp only at e
  unfold evE at e
  split at e
  · rename_i i S1 e1
    cases e
    exact tM_then st (bool_inv e1) fun F1 M1 H1 v1 x1 st1 r1 n1 => ⟨i, r1.dat.bl_inv, kk F1 M1 H1 _ x1 st1 (RRV.bl_ _) trivial⟩
  · cases e
theorem r_ite {t a b : Ex} {x y z : Expr} {pos : Pos} (ht : PT X x (tT X.w X.K fun sl S => bool? (evE E sl S t))) (ha : PE X y (tM X.w X.K fun sl S => evE E sl S a)) (hb : PE X z (tM X.w X.K fun sl S => evE E sl S b)) :
    PE X (.IfExp x y z pos) (tM X.w X.K fun sl S => evE E sl S (.ite t a b)) := by
  refine PE.imp (pe_ifExp ht ha hb) fun σ H Q hh => ?_
  obtain ⟨F0, M0, H0, F, M, S, sl, r, S', st, e, kk⟩ := hh
  dsimp only at e
  unfold evE at e
  split at e
  · rename_i S1 e1
    split at e
    · rename_i v S2 e2
      cases e
      refine tT_then st e1 fun F1 M1 H1 x1 st1 => ?_
      show if true = true then _ else _
      rw [if_pos rfl]
      exact tX_of (tX_then st1 e2 fun F2 M2 H2 v2 x2 st2 f q => kk F2 M2 H2 v2 (x1.trans x2) st2 ⟨f, q⟩ trivial)
    · cases e
  · rename_i S1 e1
    split at e
    · rename_i v S2 e2
      cases e
      refine tT_then st e1 fun F1 M1 H1 x1 st1 => ?_
      show if false = true then _ else _
      rw [if_neg Bool.false_ne_true]
      exact tX_of (tX_then st1 e2 fun F2 M2 H2 v2 x2 st2 f q => kk F2 M2 H2 v2 (x1.trans x2) st2 ⟨f, q⟩ trivial)
    · cases e
  · cases e

/-! ### subscripts, slices -/
theorem r_sub (T : Ctx X G E k) {a i : Ex} {x y : Expr} {pos : Pos} (ha : PE X x (tM X.w X.K fun sl S => evE E sl S a)) (hb : PE X y (tM X.w X.K fun sl S => evE E sl S i)) (hp : plainIxB y = true) :
    PE X (.Subscript x y pos) (tM X.w X.K fun sl S => evE E sl S (.sub a i)) := by
  have := T.units
  refine PE.imp (pe_ix (ix_subD (by omega)) ha hb (plainIx_of hp)) fun σ H Q hh => ?_
  obtain ⟨F0, M0, H0, F, M, S, sl, r, S', st, e, kk⟩ := hh
  dsimp only at e
  unfold evE at e
  split at e
  · rename_i va S1 e1
    split at e
    · rename_i vb S2 e2
      obtain ⟨z, e3, e4⟩ := Option.map_eq_some_iff.mp e
      cases e4
      refine tM_then st e1 fun F1 M1 H1 v1 x1 st1 r1 n1 => tM_then st1 e2 fun F2 M2 H2 v2 x2 st2 r2 n2 => ?_
      exact ⟨F0, M0, H0, F2, M2, _, sl, σ, va, vb, r, st2, r1.xt x2, r2, e3, fun F' H' v x3 st' r3 n3 => kk F' M2 H' v (x1.trans (x2.trans x3)) st' r3 (n3.xt (x1.trans x2))⟩
    · cases e
  · cases e
theorem r_bno : PO X none (tOb X.w X.K fun sl S => evO E sl S .no) := by
  refine PO.imp po_none fun σ H Q hh => ?_
  obtain ⟨F0, M0, H0, F, M, S, sl, r, S', st, e, kk⟩ := hh
  dsimp only at e
  unfold evO at e
  cases e
  exact kk F M H (Xt.refl st.sub) st
theorem r_byes {a : Ex} {x : Expr} (ha : PE X x (tM X.w X.K fun sl S => evE E sl S a)) : PO X (some x) (tOb X.w X.K fun sl S => evO E sl S (.yes a)) := by
  refine PO.imp (po_some ha) fun σ H Q hh => ?_
  obtain ⟨F0, M0, H0, F, M, S, sl, r, S', st, e, kk⟩ := hh
  dsimp only at e
  unfold evO at e
  split at e
  · rename_i i S1 e1
    cases e
    refine tM_then st (int_inv e1) fun F1 M1 H1 v1 x1 st1 r1 n1 => ?_
    exact ⟨i, r1.dat.int_inv, kk F1 M1 H1 x1 st1⟩
  · cases e
theorem r_slc {a : Ex} {lo hi : Exo} {x : Expr} {l h : Option Expr} {p2 pos : Pos} (ha : PE X x (tM X.w X.K fun sl S => evE E sl S a)) (hl : PO X l (tOb X.w X.K fun sl S => evO E sl S lo)) (hh : PO X h (tOb X.w X.K fun sl S => evO E sl S hi)) :
    PE X (.Subscript x (.Slice l h none p2) pos) (tM X.w X.K fun sl S => evE E sl S (.slc a lo hi)) := by
  refine PE.imp (pe_slice sl_D ha hl hh) fun σ H Q hh => ?_
  obtain ⟨F0, M0, H0, F, M, S, sl, r, S', st, e, kk⟩ := hh
  dsimp only at e
  unfold evE at e
  split at e
  · rename_i va S1 e1
    split at e
    · rename_i vl S2 e2
      split at e
      · rename_i vh S3 e3
        obtain ⟨z, e4, e5⟩ := Option.map_eq_some_iff.mp e
        cases e5
        refine tM_then st e1 fun F1 M1 H1 v1 x1 st1 r1 n1 => tO_then st1 e2 fun F2 M2 H2 x2 st2 => tO_then st2 e3 fun F3 M3 H3 x3 st3 => ?_
        exact ⟨F0, M0, H0, F3, M3, _, sl, σ, va, r, st3, (r1.xt x2).xt x3, e4, fun F' H' v x4 st' r4 n4 => kk F' M3 H' v (x1.trans (x2.trans (x3.trans x4))) st' r4 (n4.xt (x1.trans (x2.trans x3)))⟩
      · cases e
    · cases e
  · cases e

/-! ### arguments, displays -/
theorem r_xnil : PA X [] (tAx X.w X.K fun sl S => evXs E sl S .nil) := by
  refine PA.imp pa_nil fun σ H Q hh => ?_
  obtain ⟨F0, M0, H0, F, M, S, sl, r, S', st, e, kk⟩ := hh
  dsimp only at e
  unfold evXs at e
  cases e
  exact kk F M H [] (Xt.refl st.sub) st .nil
theorem r_xcons {a : Ex} {r : Exs} {x : Expr} {xs : List Expr} (ha : PE X x (tM X.w X.K fun sl S => evE E sl S a)) (hr : PA X xs (tAx X.w X.K fun sl S => evXs E sl S r)) (hn : notStar x = true) :
    PA X (x :: xs) (tAx X.w X.K fun sl S => evXs E sl S (.cons a r)) := by
  refine PA.imp (pa_cons ha hr (star_cons hn)) fun σ H Q hh => ?_
  obtain ⟨F0, M0, H0, F, M, S, sl, rs, S', st, e, kk⟩ := hh
  dsimp only at e
  unfold evXs at e
  split at e
  · rename_i v S1 e1
    split at e
    · rename_i vs S2 e2
      cases e
      refine tX_of (tX_then st e1 fun F1 M1 H1 v1 x1 st1 f1 q1 => tAx_then st1 e2 fun F2 M2 H2 v2 x2 st2 q2 => ?_)
      exact kk F2 M2 H2 _ (x1.trans x2) st2 (.cons ⟨f1, q1.xt x2⟩ q2)
    · cases e
  · cases e
theorem r_enil : PA X [] (tAs X.w X.K fun sl S => evEs E sl S .nil) := by
  refine PA.imp pa_nil fun σ H Q hh => ?_
  obtain ⟨F0, M0, H0, F, M, S, sl, r, S', st, e, kk⟩ := hh
  dsimp only at e
  unfold evEs at e
  cases e
  exact kk F M H [] (Xt.refl st.sub) st .nil trivial
theorem r_econs {a : Ex} {r : Exs} {x : Expr} {xs : List Expr} (ha : PE X x (tM X.w X.K fun sl S => evE E sl S a)) (hr : PA X xs (tAs X.w X.K fun sl S => evEs E sl S r)) (hn : notStar x = true) :
    PA X (x :: xs) (tAs X.w X.K fun sl S => evEs E sl S (.cons a r)) := by
  refine PA.imp (pa_cons ha hr (star_cons hn)) fun σ H Q hh => ?_
  obtain ⟨F0, M0, H0, F, M, S, sl, rs, S', st, e, kk⟩ := hh
  dsimp only at e
  unfold evEs at e
  split at e
  · rename_i v S1 e1
    split at e
    · rename_i vs S2 e2
      cases e
      refine tM_then st e1 fun F1 M1 H1 v1 x1 st1 q1 n1 => tA_then st1 e2 fun F2 M2 H2 v2 x2 st2 q2 n2 => ?_
      refine kk F2 M2 H2 _ (x1.trans x2) st2 (.cons (q1.xt x2) q2) ⟨n1, H1, x1.there, fun a o e1 e2 => ?_, n2⟩
      subst e1 e2
      obtain ⟨b, eb, _, q⟩ := q1
      cases eb
      exact q.2.2.some
    · cases e
  · cases e
theorem vals_rps {w : World} {K : Frg} {H0 F H : Hp} {M : List Addr} : ∀ {vs : List V} {ss : List SV} {ds : List D}, RSs w K H0 F M H vs ss → vals ss = some ds → Rps K F vs ds
  | _, _, _, .nil, e => by cases e; exact .nil
  | _, s :: ss, _, .cons h t, e => by
    cases s with
    | val d =>
      rw [vals] at e
      obtain ⟨ds', e', rfl⟩ := Option.map_eq_some_iff.mp e
      exact .cons (dat_rp h.2) (vals_rps t e')
    | _ => simp [vals] at e
theorem r_tup {es : Exs} {xs : List Expr} {k2 : Nat} {pos : Pos} (h : PA X xs (tAx X.w X.K fun sl S => evXs E sl S es)) : PE X (.Tuple xs k2 pos) (tM X.w X.K fun sl S => evE E sl S (.tup es)) := by
  refine PE.imp (pe_tupZ h) fun σ H Q hh => ?_
  obtain ⟨F0, M0, H0, F, M, S, sl, r, S', st, e, kk⟩ := hh
  dsimp only at e
  unfold evE at e
  split at e
  · rename_i vs S1 e1
    obtain ⟨z, e2, e3⟩ := Option.map_eq_some_iff.mp e
    cases e3
    refine tAx_then st e1 fun F1 M1 H1 ws x1 st1 q1 => ?_
    unfold tupS at e2
    split at e2
    · rename_i ds e4
      split at e2
      · rename_i hz
        cases e2
        have rr := vals_rps q1 e4
        have hl : ws.length ≤ sizeLine := by rw [rr.length, ← szL_eq]; exact hz
        exact ⟨hl, fun p o hp ho => kk _ M1 _ _ (x1.trans (Xt.newF st1.sub hp)) (st1.newF hp) (RRV.ofd (tupF (st1.sub.none hp) ho rr hl)) trivial⟩
      · cases e2
    · split at e2
      · cases e2
        cases q1 with
        | cons h1 t =>
          cases t with
          | cons h2 t =>
            cases t
            rename_i w1 w2
            refine ⟨by show 2 ≤ sizeLine; rw [sizeLine_eq]; decide, fun p o hp ho => ?_⟩
            have xx := Xt.newF (o := .frz o (.tup [w1, w2])) (M := M1) st1.sub hp
            refine kk _ M1 _ _ (x1.trans xx) (st1.newF hp) ⟨?_, ?_⟩ trivial
            · show (_ && _) = true
              rw [h1.1, h2.1]; rfl
            · unfold RSV
              exact ⟨p, _, _, rfl, .inl (.inr ⟨o, upd_same⟩), h1.2.xt xx, h2.2.xt xx⟩
      · cases e2
  · cases e
theorem r_lst {es : Exs} {xs : List Expr} {pos : Pos} (h : PA X xs (tAx X.w X.K fun sl S => evXs E sl S es)) : PE X (.List xs pos) (tM X.w X.K fun sl S => evE E sl S (.lst es)) := by
  refine PE.imp (pe_lst h) fun σ H Q hh => ?_
  obtain ⟨F0, M0, H0, F, M, S, sl, r, S', st, e, kk⟩ := hh
  dsimp only at e
  unfold evE at e
  split at e
  · rename_i vs S1 e1
    split at e
    · rename_i ds e4
      split at e
      · rename_i hz
        cases e
        refine tAx_then st e1 fun F1 M1 H1 ws x1 st1 q1 => ?_
        have rr := vals_rps q1 e4
        have hl : ws.length ≤ sizeLine := by rw [rr.length, ← szL_eq]; exact hz
        exact ⟨hl, fun p hp => kk F1 M1 _ _ (x1.trans (Xt.new st1.sub hp)) (st1.new hp) (st1.newL hp rr hl) ((newIn (o := .lst ds) hp).xt x1)⟩
      · cases e
    · cases e
  · cases e
theorem Xt.newM {F H : Hp} {M : List Addr} (s : Sub F H) {p : Addr} {o : HO} (hp : H p = none) : Xt F M H F (M ++ [p]) (upd H p o) :=
  ⟨(Xt.new (M := M) s hp).keep, (Xt.new (M := M) s hp).there, Sub.refl F, (Xt.new (M := M) s hp).sub, fun a e _ => e, [p], rfl, fun a h => by simp at h; subst h; exact hp⟩
theorem Cls.newM {K : Frg} {F H : Hp} {M : List Addr} {S : Store} (c : Cls K F M H S) (s : Sub F H) {p : Addr} {vs : List V} {ds : List D} (hp : H p = none) (r : Rps K F vs ds) (z : vs.length ≤ sizeLine) : Cls K F (M ++ [p]) (upd H p (.lst vs)) (S ++ [ds]) := by
  have c1 := c.new (o := .lst vs) s hp
  refine ⟨?_, ?_⟩
  · rw [List.nodup_append]
    refine ⟨c.nd, by simp, fun a ha b hb e => ?_⟩
    simp at hb
    subst hb
    exact (c.mem_some ha).2 (e ▸ hp)
  · have app : ∀ {N : List Addr} {U : Store}, Paired (CelAt K F (upd H p (.lst vs))) N U → Paired (CelAt K F (upd H p (.lst vs))) (N ++ [p]) (U ++ [ds]) := by
      intro N U h
      induction h with
      | nil => exact .cons ⟨s.none hp, vs, upd_same, z, r⟩ .nil
      | cons h t ih => exact .cons h ih
    exact app c1.at_
theorem r_cel {es : Exs} {xs : List Expr} {pos : Pos} (h : PA X xs (tAx X.w X.K fun sl S => evXs E sl S es)) : PE X (.List xs pos) (tM X.w X.K fun sl S => evE E sl S (.cel es)) := by
  refine PE.imp (pe_lst h) fun σ H Q hh => ?_
  obtain ⟨F0, M0, H0, F, M, S, sl, r, S', st, e, kk⟩ := hh
  dsimp only at e
  unfold evE at e
  split at e
  · rename_i vs S1 e1
    split at e
    · rename_i ds e4
      split at e
      · rename_i hz
        cases e
        refine tAx_then st e1 fun F1 M1 H1 ws x1 st1 q1 => ?_
        have rr := vals_rps q1 e4
        have hl : ws.length ≤ sizeLine := by rw [rr.length, ← szL_eq]; exact hz
        refine ⟨hl, fun p hp => ?_⟩
        have xx := Xt.newM (o := .lst ws) (M := M1) st1.sub hp
        refine kk F1 (M1 ++ [p]) _ _ (x1.trans xx) (st1.xt xx (st1.cls.newM st1.sub hp rr hl)) ⟨rfl, ?_⟩ trivial
        unfold RSV
        exact ⟨p, rfl, by rw [← st1.cls.len]; simp⟩
      · cases e
    · cases e
  · cases e
end
end DL

/-! The data layer, part 10: calls, tests, targets. -/
namespace DL
open PySem PySem.Spec PyProof.Rows L2

section
variable {X : Cx} {G : Pg} {E : Ev} {k : Nat} {c : Cn}
theorem call_imp (T : Ctx X G E k) {f : Nat} {es : Exs} {ta : TA} {E1 : XK} {σ : L2.St} {H : Hp} {Q : VK} (ht : ∀ P : List V → Hp → Prop, tAx X.w X.K (fun sl S => evXs E sl S es) σ H P → ta σ H P)
    (h : tM X.w X.K (fun sl S => evE E sl S (.call f es)) σ H Q) : tCall (spD X.w X.K E.call f) [] E1 ta σ H Q := by
  obtain ⟨F0, M0, H0, F, M, S, sl, r, S', st, e, kk⟩ := h
  dsimp only at e
  unfold evE at e
  split at e
  · rename_i vs S1 e1
    split at e
    · rename_i v S2 e2
      cases e
      refine ht _ (tAx_then st e1 fun F1 M1 H1 ws x1 st1 q1 => ?_)
      rw [List.append_nil]
      have fr := T.free _ _ _ _ _ e2
      refine ⟨F1, M1, S1, vs, v, S', st1.sub, st1.cls, Paired.mapP q1 fun a b z => ⟨z.1, RSV.free z.1 z.2⟩, e2, fr, fun F' M' H' z x2 c2 r2 => ?_⟩
      exact kk F' M' H' z (x1.trans x2) (st1.xt x2 c2) ⟨fr, RSV.free fr r2⟩ trivial
    · cases e
  · cases e
theorem chEs_nil {G : Pg} {c : Cn} {es : Exs} (h : chEs G c es [] = true) : es = .nil := by
  cases es with
  | nil => rfl
  | cons e r => unfold chEs at h; cases h
theorem r_call (T : Ctx X G E k) (C : CnOk X c) {f : Nat} {d : Df} {es : Exs} {x : Str} {xs : List Expr} {p pos : Pos} (hd : G.ds f = some d) (hx : d.name = x) (hg : glB c.sc x = true) (h : PA X xs (tAx X.w X.K fun sl S => evXs E sl S es)) (hc : chEs G c es xs = true) :
    PE X (.Call (.Name x p) xs [] pos) (tM X.w X.K fun sl S => evE E sl S (.call f es)) := by
  obtain ⟨a, fd, e1, e2, e3, e4⟩ := T.fn f d hd
  obtain ⟨gl, db⟩ := C.gl hg
  have hn := chEs_ns hc
  subst hx
  cases xs with
  | nil =>
    cases chEs_nil hc
    refine PE.imp (pe_call0 (E := E0) e4 T.room gl e1 e2 e3 .nil pass0 (dbg1 db)) fun σ H Q hh => call_imp T (fun P q => ?_) hh
    obtain ⟨F0, M0, H0, F, M, S, sl, rs, S', st, e, kk⟩ := q
    dsimp only at e
    unfold evXs at e
    cases e
    exact kk F M H [] (Xt.refl st.sub) st .nil
  | cons y ys =>
    exact PE.imp (pe_call (E := E0) e4 T.room gl e1 e2 e3 .nil pass0 h (dbg1 db) (star_cons (hn y List.mem_cons_self)) (star_plain fun a ha => hn a (List.mem_cons_of_mem _ ha))) fun σ H Q hh => call_imp T (fun P q => q) hh

/-! ### built-ins -/
theorem bi_imp {w : World} {K : Frg} {b : Bi} {es : Exs} {σ : L2.St} {H : Hp} {Q : VK} (h : tM w K (fun sl S => evE E sl S (.bi b es)) σ H Q) : tCB (rBi w K (biS b)) (tAs w K fun sl S => evEs E sl S es) σ H Q := by
  obtain ⟨F0, M0, H0, F, M, S, sl, r, S', st, e, kk⟩ := h
  dsimp only at e
  unfold evE at e
  split at e
  · rename_i rs S1 e1
    obtain ⟨z, e2, e3⟩ := Option.map_eq_some_iff.mp e
    cases e3
    refine tA_then st e1 fun F1 M1 H1 ws x1 st1 q1 n1 => ?_
    exact ⟨F0, M0, H0, F1, M1, _, sl, σ, rs, r, st1, q1, e2, fun F' H' v x2 st2 r2 n2 => kk F' M1 H' v (x1.trans x2) st2 r2 (n2.xt x1)⟩
  · cases e
theorem call_sortedD (T : Ctx X G E k) : CallR X (.builtin "sorted") (rBi X.w X.K (biS .sorted)) := by
  intro pins s τ H xs us Q I rv ⟨F0, M0, H0, F, M, S, sl, σ, as, r, st, ha, e, kk⟩
  have := T.units
  unfold biS at e
  split at e <;> first | contradiction | skip
  obtain ⟨x, rfl, h⟩ := one_of ha
  split at e
  · split at e
    · cases e
      obtain ⟨p, ys, rfl, hp, zz, rr⟩ := toL_rep st.sub h (by assumption)
      obtain ⟨v, rfl, rx⟩ := vals1' rv
      cases rx
      exact sorted_at (by omega) I st hp rr (by assumption) kk
    · cases e
  · split at e
    · split at e
      · cases e
        obtain ⟨p, rfl, h2⟩ := toK_rep st.sub h (by assumption)
        obtain ⟨v, rfl, rx⟩ := vals1' rv
        cases rx
        exact sorted_dct (by omega) T.calm I st h2 (by assumption) kk
      · cases e
    · cases e
def Bi.val : Bi → Value
  | .len => .builtin "len" | .all => .builtin "all" | .any => .builtin "any" | .sum => .builtin "sum" | .max2 => .builtin "max" | .min2 => .builtin "min" | .sorted => .builtin "sorted"
  | .tuple => .type "tuple" | .list => .type "list" | .int => .type "int" | .str => .type "str" | .dict => .type "dict"
theorem call_bi (T : Ctx X G E k) {b : Bi} {x : Str} (h : b.name = some x) : CallR X b.val (rBi X.w X.K (biS b)) := by
  cases b with
  | len => exact call_lenD
  | tuple => exact call_tupleD
  | list => exact call_listD
  | all => exact call_allD T.calm
  | any => exact call_anyD T.calm
  | int => exact call_intD
  | str => exact call_strD
  | sum => exact call_sumD T.calm
  | max2 => exact call_max2D T.calm
  | min2 => exact call_min2D T.calm
  | sorted => exact call_sortedD T
  | dict => exact call_dictD T.units T.calm
theorem mg_blt (T : Ctx X G E k) {x : Str} (h : (bltNames.contains x) = true) : X.mg x = none := T.blt x (by simpa using h)
theorem bi_args {b : Bi} {σ : L2.St} {H : Hp} {Q : VK} {w : World} {K : Frg} (h : tM w K (fun sl S => evE E sl S (.bi b .nil)) σ H Q) : False := by
  obtain ⟨F0, M0, H0, F, M, S, sl, r, S', st, e, kk⟩ := h
  dsimp only at e
  unfold evE evEs at e
  cases b <;> simp [biS] at e
theorem pe_never {e : Expr} {t : TE} (h : ∀ σ H Q, t σ H Q → False) : PE X e t := ⟨fun pins s σ H Q I q => (h σ H Q q).elim⟩
theorem r_bi (T : Ctx X G E k) (C : CnOk X c) {b : Bi} {es : Exs} {x : Str} {xs : List Expr} {p pos : Pos} (hb : b.name = some x) (hg : glB c.sc x = true) (h : PA X xs (tAs X.w X.K fun sl S => evEs E sl S es)) (hc : chEs G c es xs = true) :
    PE X (.Call (.Name x p) xs [] pos) (tM X.w X.K fun sl S => evE E sl S (.bi b es)) := by
  obtain ⟨gl, db⟩ := C.gl hg
  have hn := chEs_ns hc
  cases xs with
  | nil =>
    cases chEs_nil hc
    exact pe_never fun σ H Q q => bi_args q
  | cons y ys =>
    have s1 := star_cons (env := X.env) (es := ys) (hn y List.mem_cons_self)
    have s2 := star_plain (env := X.env) (pos := pos) fun a ha => hn a (List.mem_cons_of_mem y ha)
    have cr := call_bi T hb
    cases b <;> simp only [Bi.name, Option.some.injEq, reduceCtorEq] at hb
    all_goals subst hb
    all_goals first
      | exact PE.imp (pe_callB cr gl (mg_blt T (by decide +kernel)) (by decide +kernel) h (by decide +kernel) (by decide +kernel) s1 s2) fun σ H Q hh => bi_imp hh
      | exact PE.imp (pe_callTy cr gl (mg_blt T (by decide +kernel)) (by decide +kernel) h (by decide +kernel) (by decide +kernel) s1 s2) fun σ H Q hh => bi_imp hh
def tyN : Ty → String
  | .int => "int" | .str => "str" | .tuple => "tuple" | .list => "list" | .bool => "bool"
theorem r_isi (T : Ctx X G E k) (C : CnOk X c) {a : Ex} {t : Ty} {x : Expr} {p p2 pos : Pos} (hg : glB c.sc "isinstance" = true) (hg2 : glB c.sc t.name = true) (ha : PE X x (tM X.w X.K fun sl S => evE E sl S a)) (hn : notStar x = true) :
    PE X (.Call (.Name "isinstance" p) [x, .Name t.name p2] [] pos) (tM X.w X.K fun sl S => evE E sl S (.isi a t)) := by
  obtain ⟨gl, db⟩ := C.gl hg
  obtain ⟨gl2, db2⟩ := C.gl hg2
  have ht : PE X (.Name t.name p2) (tC (.ty (tyN t))) := by
    clear hg2 db2
    cases t
    all_goals exact pe_bltn gl2 (mg_blt T (by decide +kernel)) (by decide +kernel) rfl (by decide +kernel) (by decide +kernel)
  refine PE.imp (pe_callB call_isi gl (mg_blt T (by decide +kernel)) (by decide +kernel) (pa_cons ha (pa_cons ht pa_nil (star_cons rfl)) (star_cons hn)) (by decide +kernel) (by decide +kernel) (star_cons hn) (star_plain fun b hb => by simp at hb; subst hb; rfl)) fun σ H Q hh => ?_
  obtain ⟨F0, M0, H0, F, M, S, sl, r, S', st, e, kk⟩ := hh
  dsimp only at e
  unfold evE at e
  split at e
  · rename_i rs S1 e1
    obtain ⟨z, e2, e3⟩ := Option.map_eq_some_iff.mp e
    cases e3
    refine tM_then st e1 fun F1 M1 H1 ws x1 st1 q1 n1 => ?_
    unfold isiS at e2
    split at e2
    · rename_i d
      cases e2
      obtain ⟨ty, h1, h2⟩ := isi_D (X := X) t q1.dat st1.sub
      exact ⟨ws, _, _, _, tyIs t d, rfl, .ty _, h1, h2 _ (by cases t <;> rfl), kk F1 M1 H1 _ x1 st1 (RRV.bl_ _) trivial⟩
    · cases e2
  · cases e

/-! ### tests -/
/-- the tests that are their value's truth -/
def plainT : Expr → Bool
  | .BoolOp .. => false
  | .UnaryOp .. => false
  | .Compare .. => false
  | .IfExp .. => false
  | _ => true
theorem r_tval {a : Ex} {x : Expr} (ha : PE X x (tM X.w X.K fun sl S => evE E sl S a)) (hp : plainT x = true) : PT X x (tT X.w X.K fun sl S => bool? (evE E sl S a)) := by
  have he : ∀ whole, isTrue x X.env whole = (do let v ← whole; standAt x.pos; holding [v] (truthy v)) := by
    intro wh
    cases x <;> first | rfl | cases hp
  refine PT.imp (pt_val ha he) fun σ H Q hh => ?_
  obtain ⟨F0, M0, H0, F, M, S, sl, b, S', st, e, kk⟩ := hh
  exact tM_then st (bool_inv e) fun F1 M1 H1 v1 x1 st1 r1 n1 => ⟨b, r1.dat.bl_inv, kk F1 M1 H1 x1 st1⟩
theorem tT_tM {w : World} {K : Frg} {m : Slots → Store → Option (RV × Store)} {σ : L2.St} {H : Hp} {Q : Bool → Hp → Prop} (h : tT w K (fun sl S => bool? (m sl S)) σ H Q) : tM w K m σ H fun x H' => ∃ k, x = .bl k ∧ Q k H' := by
  obtain ⟨F0, M0, H0, F, M, S, sl, b, S', st, e, kk⟩ := h
  exact tM_then st (bool_inv e) fun F1 M1 H1 v1 x1 st1 r1 n1 => ⟨b, r1.dat.bl_inv, kk F1 M1 H1 x1 st1⟩
theorem r_tcop (T : Ctx X G E k) {o : COp} {a b : Ex} {x y : Expr} {pos : Pos} (ha : PE X x (tM X.w X.K fun sl S => evE E sl S a)) (hb : PE X y (tM X.w X.K fun sl S => evE E sl S b)) (hm : behindInMarks (copOf o) y = false) :
    PT X (.Compare x [copOf o] [y] pos) (tT X.w X.K fun sl S => bool? (evE E sl S (.cop o a b))) := by
  have := T.units
  refine PT.imp (pt_cmpR (op_cop (by omega) o) ha hb hm) fun σ H Q h => ?_
  show tOp _ _ _ σ H _
  refine tOp_of ?_
  have hh := tT_tM h
  obtain ⟨F0, M0, H0, F, M, S, sl, r, S', st, e, kk⟩ := hh
  dsimp only at e
  unfold evE at e
  exact ⟨F0, M0, H0, F, M, S, sl, r, S', st, e, kk⟩
theorem r_tnot {a : Ex} {x : Expr} {pos : Pos} (ha : PT X x (tT X.w X.K fun sl S => bool? (evE E sl S a))) : PT X (.UnaryOp .Not x pos) (tT X.w X.K fun sl S => bool? (evE E sl S (.not a))) := by
  refine PT.imp (pt_not ha) fun σ H Q hh => ?_
  obtain ⟨F0, M0, H0, F, M, S, sl, b, S', st, e, kk⟩ := hh
  have e := bool_inv e
  unfold evE at e
  split at e
  · rename_i i S1 e1
    cases e
    exact tT_then st e1 fun F1 M1 H1 x1 st1 => kk F1 M1 H1 x1 st1
  · cases e
theorem PW.imp {X : Cx} {e : Expr} {t t' : TT} (h : PW X e t) (i : ∀ σ H Q, t' σ H Q → t σ H Q) : PW X e t' := ⟨fun wh pins s σ H Q I hq => h.run wh pins s σ H Q I (i _ _ _ hq)⟩
theorem r_wand {a b : Ex} {x y : Expr} {rest : List Expr} {pos : Pos} (ha : PT X x (tT X.w X.K fun sl S => bool? (evE E sl S a))) (hb : PW X (.BoolOp .And (y :: rest) pos) (tT X.w X.K fun sl S => bool? (evE E sl S b))) :
    PW X (.BoolOp .And (x :: y :: rest) pos) (tT X.w X.K fun sl S => bool? (evE E sl S (.and a b))) := by
  refine PW.imp (pw_and ha hb) fun σ H Q hh => ?_
  obtain ⟨F0, M0, H0, F, M, S, sl, r, S', st, e, kk⟩ := hh
  have e := bool_inv e
  unfold evE at e
  split at e
  · rename_i S1 e1
    split at e
    · rename_i v S2 e2
      cases e
      refine tT_then st e1 fun F1 M1 H1 x1 st1 => ?_
      show if true = true then _ else _
      rw [if_pos rfl]
      obtain ⟨q, e3, e4⟩ := fz_inv e2
      have e5 : bool? (evE E sl S1 b) = some (r, S') := by
        rw [e3]
        unfold fzR at e4
        split at e4
        · cases e4; rfl
        · rename_i o
          cases o <;> cases e4
        · cases e4
      exact tT_then st1 e5 fun F2 M2 H2 x2 st2 => kk F2 M2 H2 (x1.trans x2) st2
    · cases e
  · rename_i S1 e1
    cases e
    refine tT_then st e1 fun F1 M1 H1 x1 st1 => ?_
    show if false = true then _ else _
    rw [if_neg Bool.false_ne_true]
    exact kk F1 M1 H1 x1 st1
  · cases e
theorem r_wor {a b : Ex} {x y : Expr} {rest : List Expr} {pos : Pos} (ha : PT X x (tT X.w X.K fun sl S => bool? (evE E sl S a))) (hb : PW X (.BoolOp .Or (y :: rest) pos) (tT X.w X.K fun sl S => bool? (evE E sl S b))) :
    PW X (.BoolOp .Or (x :: y :: rest) pos) (tT X.w X.K fun sl S => bool? (evE E sl S (.or a b))) := by
  refine PW.imp (pw_or ha hb) fun σ H Q hh => ?_
  obtain ⟨F0, M0, H0, F, M, S, sl, r, S', st, e, kk⟩ := hh
  have e := bool_inv e
  unfold evE at e
  split at e
  · rename_i S1 e1
    split at e
    · rename_i v S2 e2
      cases e
      refine tT_then st e1 fun F1 M1 H1 x1 st1 => ?_
      show if false = true then _ else _
      rw [if_neg Bool.false_ne_true]
      obtain ⟨q, e3, e4⟩ := fz_inv e2
      have e5 : bool? (evE E sl S1 b) = some (r, S') := by
        rw [e3]
        unfold fzR at e4
        split at e4
        · cases e4; rfl
        · rename_i o
          cases o <;> cases e4
        · cases e4
      exact tT_then st1 e5 fun F2 M2 H2 x2 st2 => kk F2 M2 H2 (x1.trans x2) st2
    · cases e
  · rename_i S1 e1
    cases e
    refine tT_then st e1 fun F1 M1 H1 x1 st1 => ?_
    show if true = true then _ else _
    rw [if_pos rfl]
    exact kk F1 M1 H1 x1 st1
  · cases e
theorem r_wone {op : BoolOp} {a : Ex} {x : Expr} {pos : Pos} (ha : PT X x (tT X.w X.K fun sl S => bool? (evE E sl S a))) : PW X (.BoolOp op [x] pos) (tT X.w X.K fun sl S => bool? (evE E sl S a)) := by
  cases op
  · exact pw_and1 ha
  · exact pw_or1 ha
theorem r_tchn (T : Ctx X G E k) {o p : COp} {a b d : Ex} {x y z : Expr} {pos : Pos} (ha : PE X x (tM X.w X.K fun sl S => evE E sl S a)) (hb : PE X y (tM X.w X.K fun sl S => evE E sl S b)) (hd : PE X z (tM X.w X.K fun sl S => evE E sl S d))
    (hm : lastMarks [copOf o, copOf p] [y, z] = false) : PT X (.Compare x [copOf o, copOf p] [y, z] pos) (tT X.w X.K fun sl S => bool? (evE E sl S (.chn o p a b d))) := by
  have := T.units
  refine PT.imp (pt_chain (op_cop (by omega) o) (op_cop (by omega) p) ha hb hd hm) fun σ H Q h => ?_
  exact chn_imp (tT_tM h)
end
end DL

/-! The data layer: zip, its pairs known. -/
namespace DL
open PySem PySem.Spec PyProof.Rows L2
def YPairZ (xs ys : Nat → Option V) : Nat → Hp → V → Hp → Prop := fun i H v H' => ∃ T o x y, v = .ref T ∧ H T = none ∧ o.dict = none ∧ H' = upd H T (.frz o (.tup [x, y])) ∧ xs i = some x ∧ ys i = some y

/-- two lists walked side by side: each pair a new tuple, its object known -/
def ZzL (K : Frg) (a b : Addr) : It :=
  ⟨fun i H => ∃ (xs ys : List V) (x y : V), SqL K H a xs ∧ SqL K H b ys ∧ xs[i]? = some x ∧ ys[i]? = some y,
    fun i H v H' => ∃ T o x y, v = .ref T ∧ H T = none ∧ o.dict = none ∧ H' = upd H T (.frz o (.tup [x, y])) ∧ (∀ xs, SqL K H a xs → xs[i]? = some x) ∧ ∀ ys, SqL K H b ys → ys[i]? = some y,
    fun i H => ∃ xs ys : List V, SqL K H a xs ∧ SqL K H b ys ∧ (xs.length ≤ i ∨ ys.length ≤ i)⟩
theorem turn_ZzL {P : Program} {w : World} {K : Frg} {elts : List Expr} {kk : Nat} {tpos : Pos} {a b z TI TO i1 i2 : Addr} (D : ZipApart z TI TO i1 i2 a b) :
    Turn P w K (.Tuple elts kk tpos) (ZzL K a b) [z, TI, TO, i1, i2] z (fun i h => IsZip h z TI TO .none ∧ PySem.IsPair h TI (.ref i1) (.ref i2) ∧ (∃ x y, PySem.IsPair h TO x y) ∧ h.IsListIter i1 a i ∧ h.IsListIter i2 b i) where
  mem := by simp
  obj := (turn_zip (P := P) (w := w) (K := K) (elts := elts) (kk := kk) (tpos := tpos) D).obj
  keep := (turn_zip (P := P) (w := w) (K := K) (elts := elts) (kk := kk) (tpos := tpos) D).keep
  item := by
    intro X hP hw hK hc i pins s σ H E I hf st hg
    subst hP hw hK
    obtain ⟨hz, hTI, ⟨x0, y0, hTO⟩, h1, h2⟩ := st
    obtain ⟨xs, ys, x, y, hqx, hqy, hx, hy⟩ := hg
    obtain ⟨its, rv, p, _⟩ := I.list hqx
    obtain ⟨its2, rv2, p2, _⟩ := I.list hqy
    obtain ⟨u, hu, ru⟩ := rv.get hx
    obtain ⟨u2, hu2, ru2⟩ := rv2.get hy
    have five : ∀ {c : Addr}, c ∈ [z, TI, TO, i1, i2] → c < s.heap.objs.size := fun {c} hm => by
      have hm' : c = z ∨ c = TI ∨ c = TO ∨ c = i1 ∨ c = i2 := by simpa using hm
      rcases hm' with e | e | e | e | e <;> subst e
      · exact Heap.lt_size hz
      · exact Heap.lt_size hTI
      · exact Heap.lt_size hTO
      · obtain ⟨_, g, _⟩ := h1; exact Heap.lt_size g
      · obtain ⟨_, g, _⟩ := h2; exact Heap.lt_size g
    have hzl := five (c := z) (by simp)
    refine wpAny_pyNext_zip_item D hz hTI hTO h1 h2 p.isList p2.isList (x := u) (y := u2) (by simpa using hu) (by simpa using hu2) fun h' z' TO' h1' h2' hT hsz hk => ⟨_, rfl, wpAny_letOwnedTupleGo_zip (s := { s with heap := h' }) z' fun h'' z'' sb => ?_⟩
    have gT := (sb.2 _ (Nat.ne_of_gt hzl)).trans hT
    have ok : ObjOk X.prog X.w (upd H s.heap.objs.size (.frz (tObj [u, u2]) (.tup [x, y]))) h'' s.heap.objs.size (.frz (tObj [u, u2]) (.tup [x, y])) :=
      tz_ok (by show 2 ≤ sizeLine; decide) (.cons ru (.cons ru2 .nil)) gT rfl rfl
    have off : ∀ c o, c ∉ [z, TI, TO, i1, i2] → s.heap.get? c = some o → h''.get? c = some o := fun c o hb q => by
      simp only [List.mem_cons, List.not_mem_nil, or_false, not_or] at hb
      exact (sb.2 c hb.1).trans (hk c o hb.1 hb.2.2.1 hb.2.2.2.1 hb.2.2.2.2 q)
    have I1 : L2.Inv X pins σ _ { s with heap := h'' } := I.turnedNew (t' := s.toks) (ch := [z, TI, TO, i1, i2]) off hf (Nat.le_refl _) ok
    have e1 : ∀ l, SqL X.K H a l → l[i]? = some x := fun l hl => by rw [I.list_inj hl hqx]; exact hx
    have e2 : ∀ l, SqL X.K H b l → l[i]? = some y := fun l hl => by rw [I.list_inj hl hqy]; exact hy
    have st' : IsZip h'' z TI TO .none ∧ PySem.IsPair h'' TI (.ref i1) (.ref i2) ∧ (∃ x y, PySem.IsPair h'' TO x y) ∧ h''.IsListIter i1 a (i + 1) ∧ h''.IsListIter i2 b (i + 1) :=
      ⟨z'', (sb.2 _ D.TIz).trans (hk _ _ D.TIz D.TITO D.TIi1 D.TIi2 hTI), ⟨u, u2, (sb.2 _ D.TOz).trans TO'⟩, h1'.at fun o q => (sb.2 _ D.i1z).trans q, h2'.at fun o q => (sb.2 _ D.i2z).trans q⟩
    exact ⟨.ref s.heap.objs.size, _, I1, rfl, ⟨_, _, x, y, rfl, I.hok.fresh (Nat.le_refl _), rfl, rfl, e1, e2⟩, st', fun c hm => by rw [upd_ne (Nat.ne_of_lt (five hm))]; exact (hf c hm).1⟩
  done := (turn_zip (P := P) (w := w) (K := K) (elts := elts) (kk := kk) (tpos := tpos) D).done
  self := (turn_zip (P := P) (w := w) (K := K) (elts := elts) (kk := kk) (tpos := tpos) D).self
theorem walk_ZzL {K : Frg} {a b : Addr} {xs ys : List V} {n : Nat} (hn : n = min xs.length ys.length) : Walk (ZzL K a b) n (fun H => SqL K H a xs ∧ SqL K H b ys) (YPairZ (fun i => xs[i]?) (fun i => ys[i]?)) := by
  subst hn
  refine ⟨fun i _ hi q => ?_, fun _ q => ⟨xs, ys, q.1, q.2, by omega⟩, fun i H v H' _ q y => ?_⟩
  · have h1 : i < xs.length := by omega
    have h2 : i < ys.length := by omega
    exact ⟨xs, ys, xs[i], ys[i], q.1, q.2, by simp [h1], by simp [h2]⟩
  · obtain ⟨T, o, x, z, h1, h2, h3, h4, h5, h6⟩ := y
    exact ⟨T, o, x, z, h1, h2, h3, h4, h5 xs q.1, h6 ys q.2⟩

/-- two tuples walked side by side: each pair a new tuple, its object known -/
def ZzT (K : Frg) (a b : Addr) : It :=
  ⟨fun i H => ∃ (xs ys : List V) (x y : V), SqT K H a xs ∧ SqT K H b ys ∧ xs[i]? = some x ∧ ys[i]? = some y,
    fun i H v H' => ∃ T o x y, v = .ref T ∧ H T = none ∧ o.dict = none ∧ H' = upd H T (.frz o (.tup [x, y])) ∧ (∀ xs, SqT K H a xs → xs[i]? = some x) ∧ ∀ ys, SqT K H b ys → ys[i]? = some y,
    fun i H => ∃ xs ys : List V, SqT K H a xs ∧ SqT K H b ys ∧ (xs.length ≤ i ∨ ys.length ≤ i)⟩
theorem turn_ZzT {P : Program} {w : World} {K : Frg} {elts : List Expr} {kk : Nat} {tpos : Pos} {a b z TI TO i1 i2 : Addr} (D : ZipApart z TI TO i1 i2 a b) :
    Turn P w K (.Tuple elts kk tpos) (ZzT K a b) [z, TI, TO, i1, i2] z (fun i h => IsZip h z TI TO .none ∧ PySem.IsPair h TI (.ref i1) (.ref i2) ∧ (∃ x y, PySem.IsPair h TO x y) ∧ h.IsTupleIter i1 a i ∧ h.IsTupleIter i2 b i) where
  mem := by simp
  obj := (RZ.turn_zipT (P := P) (w := w) (K := K) (elts := elts) (kk := kk) (tpos := tpos) D).obj
  keep := (RZ.turn_zipT (P := P) (w := w) (K := K) (elts := elts) (kk := kk) (tpos := tpos) D).keep
  item := by
    intro X hP hw hK hc i pins s σ H E I hf st hg
    subst hP hw hK
    obtain ⟨hz, hTI, ⟨x0, y0, hTO⟩, h1, h2⟩ := st
    obtain ⟨xs, ys, x, y, hqx, hqy, hx, hy⟩ := hg
    obtain ⟨its, rv, p, _⟩ := I.tuple hqx
    obtain ⟨its2, rv2, p2, _⟩ := I.tuple hqy
    obtain ⟨u, hu, ru⟩ := rv.get hx
    obtain ⟨u2, hu2, ru2⟩ := rv2.get hy
    have five : ∀ {c : Addr}, c ∈ [z, TI, TO, i1, i2] → c < s.heap.objs.size := fun {c} hm => by
      have hm' : c = z ∨ c = TI ∨ c = TO ∨ c = i1 ∨ c = i2 := by simpa using hm
      rcases hm' with e | e | e | e | e <;> subst e
      · exact Heap.lt_size hz
      · exact Heap.lt_size hTI
      · exact Heap.lt_size hTO
      · obtain ⟨_, g, _⟩ := h1; exact Heap.lt_size g
      · obtain ⟨_, g, _⟩ := h2; exact Heap.lt_size g
    have hzl := five (c := z) (by simp)
    refine RZ.pyNext_zipT_item D hz hTI hTO h1 h2 p p2 (x := u) (y := u2) (by simpa using hu) (by simpa using hu2) fun h' z' TO' h1' h2' hT hsz hk => ⟨_, rfl, wpAny_letOwnedTupleGo_zip (s := { s with heap := h' }) z' fun h'' z'' sb => ?_⟩
    have gT := (sb.2 _ (Nat.ne_of_gt hzl)).trans hT
    have ok : ObjOk X.prog X.w (upd H s.heap.objs.size (.frz (tObj [u, u2]) (.tup [x, y]))) h'' s.heap.objs.size (.frz (tObj [u, u2]) (.tup [x, y])) :=
      tz_ok (by show 2 ≤ sizeLine; decide) (.cons ru (.cons ru2 .nil)) gT rfl rfl
    have off : ∀ c o, c ∉ [z, TI, TO, i1, i2] → s.heap.get? c = some o → h''.get? c = some o := fun c o hb q => by
      simp only [List.mem_cons, List.not_mem_nil, or_false, not_or] at hb
      exact (sb.2 c hb.1).trans (hk c o hb.1 hb.2.2.1 hb.2.2.2.1 hb.2.2.2.2 q)
    have I1 : L2.Inv X pins σ _ { s with heap := h'' } := I.turnedNew (t' := s.toks) (ch := [z, TI, TO, i1, i2]) off hf (Nat.le_refl _) ok
    have e1 : ∀ l, SqT X.K H a l → l[i]? = some x := fun l hl => by rw [I.tuple_inj hl hqx]; exact hx
    have e2 : ∀ l, SqT X.K H b l → l[i]? = some y := fun l hl => by rw [I.tuple_inj hl hqy]; exact hy
    have st' : IsZip h'' z TI TO .none ∧ PySem.IsPair h'' TI (.ref i1) (.ref i2) ∧ (∃ x y, PySem.IsPair h'' TO x y) ∧ h''.IsTupleIter i1 a (i + 1) ∧ h''.IsTupleIter i2 b (i + 1) :=
      ⟨z'', (sb.2 _ D.TIz).trans (hk _ _ D.TIz D.TITO D.TIi1 D.TIi2 hTI), ⟨u, u2, (sb.2 _ D.TOz).trans TO'⟩, h1'.at fun o q => (sb.2 _ D.i1z).trans q, h2'.at fun o q => (sb.2 _ D.i2z).trans q⟩
    exact ⟨.ref s.heap.objs.size, _, I1, rfl, ⟨_, _, x, y, rfl, I.hok.fresh (Nat.le_refl _), rfl, rfl, e1, e2⟩, st', fun c hm => by rw [upd_ne (Nat.ne_of_lt (five hm))]; exact (hf c hm).1⟩
  done := (RZ.turn_zipT (P := P) (w := w) (K := K) (elts := elts) (kk := kk) (tpos := tpos) D).done
  self := (RZ.turn_zipT (P := P) (w := w) (K := K) (elts := elts) (kk := kk) (tpos := tpos) D).self
theorem walk_ZzT {K : Frg} {a b : Addr} {xs ys : List V} {n : Nat} (hn : n = min xs.length ys.length) : Walk (ZzT K a b) n (fun H => SqT K H a xs ∧ SqT K H b ys) (YPairZ (fun i => xs[i]?) (fun i => ys[i]?)) := by
  subst hn
  refine ⟨fun i _ hi q => ?_, fun _ q => ⟨xs, ys, q.1, q.2, by omega⟩, fun i H v H' _ q y => ?_⟩
  · have h1 : i < xs.length := by omega
    have h2 : i < ys.length := by omega
    exact ⟨xs, ys, xs[i], ys[i], q.1, q.2, by simp [h1], by simp [h2]⟩
  · obtain ⟨T, o, x, z, h1, h2, h3, h4, h5, h6⟩ := y
    exact ⟨T, o, x, z, h1, h2, h3, h4, h5 xs q.1, h6 ys q.2⟩

theorem pi_zipZ {X : Cx} {e e2 : Expr} {ta : TA} {p pos tpos : Pos} {elts : List Expr} {kk : Nat} (hg : Gl X "zip") (hm : X.mg "zip" = none) (ha : PA X [e, e2] ta)
    (hs : starEach [e, e2] X.env = (false, eval e X.env) :: starEach [e2] X.env := by rfl) (hpl : (backTo pos (starEach [e2] X.env)).any (·.1) = false := by rfl) :
    PI X (.Tuple elts kk tpos) (.Call (.Name "zip" p) [e, e2] [] pos) (fun σ H R => ta σ H fun vs H1 => ∃ a b xs ys, vs = [.ref a, .ref b] ∧ ((SqL X.K H1 a xs ∧ SqL X.K H1 b ys ∧ R (ZzL X.K a b) H1) ∨ (SqT X.K H1 a xs ∧ SqT X.K H1 b ys ∧ R (ZzT X.K a b) H1))) := by
  refine ⟨fun pins s σ H R I h => ?_⟩
  refine Call_ (ld_blt I hg hm PyProof.Rows.boot_zip (PyProof.Rows.callWith_type1 (thn (ha.run pos pins s σ H _ I h) fun us s1 ⟨vs, H1, I1, r1, a, b, xs, ys, ex, q1⟩ => ?_) hs hpl))
  subst ex
  obtain ⟨v1, v2, rfl, q3, q4⟩ := vals2' r1
  cases q3
  cases q4
  have new5 : ∀ c, c ∈ [s1.heap.objs.size + 4, s1.heap.objs.size + 2, s1.heap.objs.size + 3, s1.heap.objs.size, s1.heap.objs.size + 1] → FpOk X pins H1 c := fun c hm => by
    have hle : s1.heap.objs.size ≤ c := by
      simp only [List.mem_cons, List.not_mem_nil, or_false] at hm
      omega
    exact I1.fpOk hle (I1.hok.fresh hle)
  rcases q1 with ⟨hx, hy, q⟩ | ⟨hx, hy, q⟩
  · obtain ⟨its, rv, p1, _⟩ := I1.list hx
    obtain ⟨its2, rv2, p2, _⟩ := I1.list hy
    exact call_zip_2 p1.isList p2.isList fun h' hz hTI hTO h1 h2 hsz hk => wpAny_pyIter_zip hz
      ⟨_, _, _, _, H1, rfl, I1.kept (t' := s1.toks) hk, turn_ZzL (PySem.W.ktu_apart s1.heap.objs.size a b p1.lt p2.lt), ⟨hz, hTI, ⟨_, _, hTO⟩, h1, h2⟩, new5, q⟩
  · obtain ⟨its, rv, p1, _⟩ := I1.tuple hx
    obtain ⟨its2, rv2, p2, _⟩ := I1.tuple hy
    obtain ⟨o1, ho1, _⟩ := id p1
    obtain ⟨o2, ho2, _⟩ := id p2
    exact RZ.call_zipT (show s1.heap.IsTuple a its.toArray from p1) (show s1.heap.IsTuple b its2.toArray from p2) fun h' hz hTI hTO h1 h2 hsz hk => wpAny_pyIter_zip hz
      ⟨_, _, _, _, H1, rfl, I1.kept (t' := s1.toks) hk, turn_ZzT (PySem.W.ktu_apart s1.heap.objs.size a b (Heap.lt_size ho1) (Heap.lt_size ho2)), ⟨hz, hTI, ⟨_, _, hTO⟩, h1, h2⟩, new5, q⟩
end DL

/-! The data layer: enumerate over lists and tuples, its pairs known. -/
namespace PySem
open Sem (wp)
open AutoSeq1 (wpAny_loadPart')
theorem dl_enum_newT (l : Addr) (items : Array Value) (n : Nat) (dct : Option Addr) (sl : Array (Option Value)) :
    Meets (Builtin.«enumerate.__new__» ⟨[.type "enumerate", .ref l], []⟩) (fun _ R s => s.heap.get? l = some { cls := .type "tuple", dict := dct, data := .seq items n, slots := sl } ∧
      R (.ok (.ret (.ref (s.heap.push { cls := .type "tuple_iterator", data := .fields #[.ref l, .int 0 0] }).objs.size)))
        { s with heap := (s.heap.push { cls := .type "tuple_iterator", data := .fields #[.ref l, .int 0 0] }).push { cls := .type "enumerate", data := .fields #[.none, .bool false, .ref s.heap.objs.size, rawInt 0, .none, .none] } }) :=
  .of_wp fun prog w A R s h => by
    obtain ⟨hp, g, d, tk, os⟩ := s
    obtain ⟨hl, h⟩ := h
    have hsub := sub_enumerate
    have hT : Heap.IsTuple (Shared.heap ⟨hp, g, d, tk, os⟩) l items := ⟨_, hl, rfl, n, rfl⟩
    wp_walk using wpAny_loadPart' hl
    refine wpAny_stack_any fun st => wpAny_pure ?_
    split
    · rename_i c _ _ _ _ _
      cases (c == Value.type "enumerate") <;>
      · wp_walk using wpAny_loadPart' hl, wpAny_pyIter_tuple hT
        exact ⟨_, rfl, h⟩
    · wp_walk using wpAny_loadPart' hl, wpAny_pyIter_tuple hT
      exact ⟨_, rfl, h⟩
section
variable {prog : Program} {w : World} {A : Around} {E : Value → Shared → Prop} {s : Shared}
theorem dl_enum_tuple {l : Addr} {items : Array Value} {Q : Value → Shared → Prop} (hL : s.heap.IsTuple l items)
    (h : ∀ h', IsEnum h' (s.heap.objs.size + 1) s.heap.objs.size 0 .none → h'.IsTupleIter s.heap.objs.size l 0 →
      (∀ b o, s.heap.get? b = some o → h'.get? b = some o) → Q (.ref (s.heap.objs.size + 1)) { s with heap := h' }) :
    wpAny (model prog w) A (call (.type "enumerate") [.ref l]) Q E s := by
  obtain ⟨⟨c, dct, dt, sl⟩, hl, hc, n, hd⟩ := hL
  replace hc : c = .type "tuple" := hc
  replace hd : dt = .seq items n := hd
  subst hc hd
  refine callType_new F.called_enumerate (by decide) (F.typeCall_enumerate_1 _) (F.newCall_enumerate_1 _) (fun obj => F.args_object_init_2 obj _) F.entry_enumerate_new (dl_enum_newT l items n dct sl) ⟨hl, ?_⟩
  generalize hg : s.heap.push { cls := .type "tuple_iterator", data := .fields #[.ref l, .int 0 0] } = g
  have hz : g.objs.size = s.heap.objs.size + 1 := by rw [← hg]; exact Heap.size_push ..
  have hi : g.get? s.heap.objs.size = some { cls := .type "tuple_iterator", data := .fields #[.ref l, .int 0 0] } := by rw [← hg]; exact Heap.get?_push_size _ rfl
  have hk : ∀ b o, s.heap.get? b = some o → g.get? b = some o := fun b o x => by rw [← hg]; exact Heap.get?_push_of_some _ x
  show _ ∧ _
  rw [hz]
  have he := Heap.get?_push_size g (o := { cls := .type "enumerate", data := .fields #[.none, .bool false, .ref s.heap.objs.size, rawInt 0, .none, .none] }) rfl
  rw [hz] at he
  exact ⟨⟨_, he, rfl⟩, h _ he ⟨_, Heap.get?_push_of_some _ hi, rfl, rfl⟩ fun b o x => Heap.get?_push_of_some _ (hk b o x)⟩
end
end PySem
namespace DL
open PySem PySem.Spec PyProof.Rows L2

def EzL (K : Frg) (a : Addr) : It :=
  ⟨fun i H => ∃ (xs : List V) (x : V), SqL K H a xs ∧ xs[i]? = some x,
    fun i H v H' => ∃ T o x, v = .ref T ∧ H T = none ∧ o.dict = none ∧ H' = upd H T (.frz o (.tup [.int (i : Nat), x])) ∧ ∀ xs, SqL K H a xs → xs[i]? = some x,
    fun i H => ∃ xs : List V, SqL K H a xs ∧ xs.length ≤ i⟩
theorem turn_EzL {P : Program} {w : World} {K : Frg} {elts : List Expr} {kk : Nat} {tpos : Pos} (a e it : Addr) :
    Turn P w K (.Tuple elts kk tpos) (EzL K a) [e, it] e (fun i h => (∃ old, IsEnum h e it ((i : Nat) : Int) old) ∧ h.IsListIter it a i ∧ e ≠ it) where
  mem := by simp
  obj := fun i h st b hb => by
    obtain ⟨⟨old, he⟩, ⟨o, ho, hc, hd⟩, _⟩ := st
    have hb' : b = e ∨ b = it := by simpa using hb
    rcases hb' with z | z <;> subst z
    · exact ⟨_, he, fun v q => nomatch q⟩
    · exact ⟨o, ho, fun v q => by rw [hd] at q; cases q⟩
  keep := fun i h h' ⟨⟨old, he⟩, hi, hne⟩ k => ⟨⟨old, k e (by simp) _ he⟩, hi.at fun o q => k it (by simp) o q, hne⟩
  item := by
    intro X hP hw hK hc i pins s σ H E I hf st hg
    subst hP hw hK
    obtain ⟨⟨old, he⟩, hit, hne⟩ := st
    obtain ⟨xs, x, hq, hx⟩ := hg
    obtain ⟨its, rv, p, hz⟩ := I.list hq
    obtain ⟨u, hu, ru⟩ := rv.get hx
    have pl : s.heap.IsList a its.toArray := p.isList
    have hai : a ≠ it := by
      rintro rfl
      obtain ⟨o1, g1, c1, _⟩ := pl
      obtain ⟨o2, g2, c2, _⟩ := hit
      rw [g1] at g2
      cases g2
      rw [c1] at c2
      injection c2 with z
      exact absurd z (by decide)
    have hae : a ≠ e := by
      rintro rfl
      obtain ⟨o1, g1, c1, _⟩ := pl
      have g2 : s.heap.get? a = some _ := he
      rw [g1] at g2
      cases g2
      injection c1 with z
      exact absurd z (by decide)
    have hel : e < s.heap.objs.size := Heap.lt_size he
    have hil : it < s.heap.objs.size := by obtain ⟨_, q, _⟩ := hit; exact Heap.lt_size q
    have hlt : i < its.toArray.size := by simpa using (List.getElem?_eq_some_iff.mp hu).1
    refine wpAny_pyNext_enum_itemD (Draws.list (A := X.A.in1) (show X.A.in1.handled = none from I.ok.hd hc) it a hai its.toArray) he ⟨hit, pl⟩ hlt hne (by simp [hne, Ne.symm hae]) fun y h' tk hP ho hs' hT hsz hk => ?_
    have hy : y = u := by
      have q : its.toArray[i]? = some y := hP
      have q2 : its.toArray[i]? = some u := by simpa using hu
      rw [q] at q2; cases q2; rfl
    subst hy
    refine ⟨_, rfl, wpAny_letOwnedTupleGo_enum (s := { s with heap := h', toks := tk + 1 }) ho fun h'' he' sb => ?_⟩
    have gT := (sb.2 _ (Nat.ne_of_gt hel)).trans hT
    have ok : ObjOk X.prog X.w (upd H s.heap.objs.size (.frz (tObj [.int i tk, y]) (.tup [.int (i : Nat), x]))) h'' s.heap.objs.size (.frz (tObj [.int i tk, y]) (.tup [.int (i : Nat), x])) :=
      tz_ok (by show 2 ≤ sizeLine; decide) (.cons ⟨_, rfl⟩ (.cons ru .nil)) gT rfl rfl
    have off : ∀ c o, c ∉ [e, it] → s.heap.get? c = some o → h''.get? c = some o := fun c o hb q => by
      simp only [List.mem_cons, List.not_mem_nil, or_false, not_or] at hb
      exact (sb.2 c hb.1).trans (hk c o hb.1 hb.2 q)
    have I1 : L2.Inv X pins σ _ { s with heap := h'', toks := tk + 1 } := I.turnedNew (ch := [e, it]) off hf (Nat.le_refl _) ok
    have st' : (∃ old, IsEnum h'' e it (((i + 1 : Nat) : Nat) : Int) old) ∧ h''.IsListIter it a (i + 1) ∧ e ≠ it :=
      ⟨⟨y, by have e1 : ((i + 1 : Nat) : Int) = (i : Int) + 1 := by omega
              rw [e1]; exact he'⟩, hs'.1.at fun o q => (sb.2 it (Ne.symm hne)).trans q, hne⟩
    refine ⟨.ref s.heap.objs.size, _, I1, rfl, ⟨_, _, x, rfl, I.hok.fresh (Nat.le_refl _), rfl, rfl, fun l hl => by rw [I.list_inj hl hq]; exact hx⟩, st', fun c hm => ?_⟩
    have hc' : c = e ∨ c = it := by simpa using hm
    have hcl : c < s.heap.objs.size := by rcases hc' with z | z <;> subst z <;> assumption
    rw [upd_ne (Nat.ne_of_lt hcl)]
    exact (hf c hm).1
  done := by
    intro X hP hw hK hc i pins s σ H E I hf st hg
    subst hP hw hK
    obtain ⟨⟨old, he⟩, hit, hne⟩ := st
    obtain ⟨xs, hq, hx⟩ := hg
    obtain ⟨its, rv, p, hz⟩ := I.list hq
    obtain ⟨f0, f1, f2, f3, f4, f5⟩ := hf it (by simp)
    have hl := rv.length
    have pl : s.heap.IsList a its.toArray := p.isList
    have fin : ∀ h', Heap.ExtBut it s.heap h' → L2.Inv X pins σ H { s with heap := h' } := fun h' eb => I.turned (t' := s.toks) (fun b o hb q => eb b o hb q) f0 f1 f3 f4 f5
    have hT : s.TypeIs (.ref e) "enumerate" := ⟨_, he, rfl⟩
    unfold pyNext
    refine wpAny_bind (wpAny_attempt (wpAny_callSpecial?_slot (name := Str.ofString "__next__") hT PySem.F.slot_enumerate_next (wpAny_call_entry PySem.F.slot_enumerate_next hT PySem.F.entry_enumerate_next ?_ (PySem.F.args_enumerate_next_1 _))))
    show wpAny _ _ (field (.ref e) 2 >>= _) _ _ _
    refine wpAny_bind (wpAny_field he rfl (x := .ref it) rfl ?_)
    refine wpAny_bind (wpAny_nextOf_list_end (show X.A.in1.handled = none from I.ok.hd hc) hit pl (by simp; omega) fun h' x he' hx' => ?_)
    obtain ⟨o, ho, hc'⟩ := hx'
    exact wpAny_bind (wpAny_isInstance (T := "StopIteration") (b := true) ⟨o, ho, hc'⟩ isSubtype_stop (wpAny_pure ⟨rfl, fin h' he'⟩))
  self := fun A i s Q E ⟨⟨_, he⟩, _⟩ h => wpAny_pyIter_enum he h

def EzT (K : Frg) (a : Addr) : It :=
  ⟨fun i H => ∃ (xs : List V) (x : V), SqT K H a xs ∧ xs[i]? = some x,
    fun i H v H' => ∃ T o x, v = .ref T ∧ H T = none ∧ o.dict = none ∧ H' = upd H T (.frz o (.tup [.int (i : Nat), x])) ∧ ∀ xs, SqT K H a xs → xs[i]? = some x,
    fun i H => ∃ xs : List V, SqT K H a xs ∧ xs.length ≤ i⟩
theorem turn_EzT {P : Program} {w : World} {K : Frg} {elts : List Expr} {kk : Nat} {tpos : Pos} (a e it : Addr) :
    Turn P w K (.Tuple elts kk tpos) (EzT K a) [e, it] e (fun i h => (∃ old, IsEnum h e it ((i : Nat) : Int) old) ∧ h.IsTupleIter it a i ∧ e ≠ it) where
  mem := by simp
  obj := fun i h st b hb => by
    obtain ⟨⟨old, he⟩, ⟨o, ho, hc, hd⟩, _⟩ := st
    have hb' : b = e ∨ b = it := by simpa using hb
    rcases hb' with z | z <;> subst z
    · exact ⟨_, he, fun v q => nomatch q⟩
    · exact ⟨o, ho, fun v q => by rw [hd] at q; cases q⟩
  keep := fun i h h' ⟨⟨old, he⟩, hi, hne⟩ k => ⟨⟨old, k e (by simp) _ he⟩, hi.at fun o q => k it (by simp) o q, hne⟩
  item := by
    intro X hP hw hK hc i pins s σ H E I hf st hg
    subst hP hw hK
    obtain ⟨⟨old, he⟩, hit, hne⟩ := st
    obtain ⟨xs, x, hq, hx⟩ := hg
    obtain ⟨its, rv, p, hz⟩ := I.tuple hq
    obtain ⟨u, hu, ru⟩ := rv.get hx
    have pl : s.heap.IsTuple a its.toArray := p
    have hai : a ≠ it := by
      rintro rfl
      obtain ⟨o1, g1, c1, _⟩ := pl
      obtain ⟨o2, g2, c2, _⟩ := hit
      rw [g1] at g2
      cases g2
      rw [c1] at c2
      injection c2 with z
      exact absurd z (by decide)
    have hae : a ≠ e := by
      rintro rfl
      obtain ⟨o1, g1, c1, _⟩ := pl
      have g2 : s.heap.get? a = some _ := he
      rw [g1] at g2
      cases g2
      injection c1 with z
      exact absurd z (by decide)
    have hel : e < s.heap.objs.size := Heap.lt_size he
    have hil : it < s.heap.objs.size := by obtain ⟨_, q, _⟩ := hit; exact Heap.lt_size q
    have hlt : i < its.toArray.size := by simpa using (List.getElem?_eq_some_iff.mp hu).1
    refine wpAny_pyNext_enum_itemD (Draws.tuple (A := X.A.in1) (show X.A.in1.handled = none from I.ok.hd hc) it a hai its.toArray) he ⟨hit, pl⟩ hlt hne (by simp [hne, Ne.symm hae]) fun y h' tk hP ho hs' hT hsz hk => ?_
    have hy : y = u := by
      have q : its.toArray[i]? = some y := hP
      have q2 : its.toArray[i]? = some u := by simpa using hu
      rw [q] at q2; cases q2; rfl
    subst hy
    refine ⟨_, rfl, wpAny_letOwnedTupleGo_enum (s := { s with heap := h', toks := tk + 1 }) ho fun h'' he' sb => ?_⟩
    have gT := (sb.2 _ (Nat.ne_of_gt hel)).trans hT
    have ok : ObjOk X.prog X.w (upd H s.heap.objs.size (.frz (tObj [.int i tk, y]) (.tup [.int (i : Nat), x]))) h'' s.heap.objs.size (.frz (tObj [.int i tk, y]) (.tup [.int (i : Nat), x])) :=
      tz_ok (by show 2 ≤ sizeLine; decide) (.cons ⟨_, rfl⟩ (.cons ru .nil)) gT rfl rfl
    have off : ∀ c o, c ∉ [e, it] → s.heap.get? c = some o → h''.get? c = some o := fun c o hb q => by
      simp only [List.mem_cons, List.not_mem_nil, or_false, not_or] at hb
      exact (sb.2 c hb.1).trans (hk c o hb.1 hb.2 q)
    have I1 : L2.Inv X pins σ _ { s with heap := h'', toks := tk + 1 } := I.turnedNew (ch := [e, it]) off hf (Nat.le_refl _) ok
    have st' : (∃ old, IsEnum h'' e it (((i + 1 : Nat) : Nat) : Int) old) ∧ h''.IsTupleIter it a (i + 1) ∧ e ≠ it :=
      ⟨⟨y, by have e1 : ((i + 1 : Nat) : Int) = (i : Int) + 1 := by omega
              rw [e1]; exact he'⟩, hs'.1.at fun o q => (sb.2 it (Ne.symm hne)).trans q, hne⟩
    refine ⟨.ref s.heap.objs.size, _, I1, rfl, ⟨_, _, x, rfl, I.hok.fresh (Nat.le_refl _), rfl, rfl, fun l hl => by rw [I.tuple_inj hl hq]; exact hx⟩, st', fun c hm => ?_⟩
    have hc' : c = e ∨ c = it := by simpa using hm
    have hcl : c < s.heap.objs.size := by rcases hc' with z | z <;> subst z <;> assumption
    rw [upd_ne (Nat.ne_of_lt hcl)]
    exact (hf c hm).1
  done := by
    intro X hP hw hK hc i pins s σ H E I hf st hg
    subst hP hw hK
    obtain ⟨⟨old, he⟩, hit, hne⟩ := st
    obtain ⟨xs, hq, hx⟩ := hg
    obtain ⟨its, rv, p, hz⟩ := I.tuple hq
    obtain ⟨f0, f1, f2, f3, f4, f5⟩ := hf it (by simp)
    have hl := rv.length
    have pl : s.heap.IsTuple a its.toArray := p
    have fin : ∀ h', Heap.ExtBut it s.heap h' → L2.Inv X pins σ H { s with heap := h' } := fun h' eb => I.turned (t' := s.toks) (fun b o hb q => eb b o hb q) f0 f1 f3 f4 f5
    have hT : s.TypeIs (.ref e) "enumerate" := ⟨_, he, rfl⟩
    unfold pyNext
    refine wpAny_bind (wpAny_attempt (wpAny_callSpecial?_slot (name := Str.ofString "__next__") hT PySem.F.slot_enumerate_next (wpAny_call_entry PySem.F.slot_enumerate_next hT PySem.F.entry_enumerate_next ?_ (PySem.F.args_enumerate_next_1 _))))
    show wpAny _ _ (field (.ref e) 2 >>= _) _ _ _
    refine wpAny_bind (wpAny_field he rfl (x := .ref it) rfl ?_)
    refine wpAny_bind (wpAny_nextOf_tuple_end (show X.A.in1.handled = none from I.ok.hd hc) hit pl (by simp; omega) fun h' x he' hx' => ?_)
    obtain ⟨o, ho, hc'⟩ := hx'
    exact wpAny_bind (wpAny_isInstance (T := "StopIteration") (b := true) ⟨o, ho, hc'⟩ isSubtype_stop (wpAny_pure ⟨rfl, fin h' he'⟩))
  self := fun A i s Q E ⟨⟨_, he⟩, _⟩ h => wpAny_pyIter_enum he h

theorem pi_enumZ {X : Cx} {e : Expr} {ta : TA} {p pos tpos : Pos} {elts : List Expr} {kk : Nat} (hg : Gl X "enumerate") (hm : X.mg "enumerate" = none) (ha : PA X [e] ta) (hs : starEach [e] X.env = [(false, eval e X.env)] := by rfl) :
    PI X (.Tuple elts kk tpos) (.Call (.Name "enumerate" p) [e] [] pos) (fun σ H R => ta σ H fun vs H1 => ∃ a xs, vs = [.ref a] ∧ ((SqL X.K H1 a xs ∧ R (EzL X.K a) H1) ∨ (SqT X.K H1 a xs ∧ R (EzT X.K a) H1))) := by
  refine ⟨fun pins s σ H R I h => ?_⟩
  refine Call_ (ld_blt I hg hm boot_enumerate (PyProof.Rows.callWith_type1 (thn (ha.run pos pins s σ H _ I h) fun us s1 ⟨vs, H1, I1, r1, a, xs, ex, q1⟩ => ?_) hs rfl))
  subst ex
  obtain ⟨v, rfl, q3⟩ := vals1' r1
  cases q3
  have new2 : ∀ c, c ∈ [s1.heap.objs.size + 1, s1.heap.objs.size] → FpOk X pins H1 c := fun c hm => by
    have hle : s1.heap.objs.size ≤ c := by
      simp only [List.mem_cons, List.not_mem_nil, or_false] at hm
      omega
    exact I1.fpOk hle (I1.hok.fresh hle)
  rcases q1 with ⟨hq, q⟩ | ⟨hq, q⟩
  · obtain ⟨its, rv, p', hz⟩ := I1.list hq
    exact call_enumerate_list p'.isList fun h' he hit hsz hk => wpAny_pyIter_enum he
      ⟨_, _, _, _, H1, rfl, I1.kept (t' := s1.toks) hk, turn_EzL a (s1.heap.objs.size + 1) s1.heap.objs.size, ⟨⟨.none, he⟩, hit, Nat.succ_ne_self _⟩, new2, q⟩
  · obtain ⟨its, rv, p', hz⟩ := I1.tuple hq
    exact dl_enum_tuple (show s1.heap.IsTuple a its.toArray from p') fun h' he hit hk => wpAny_pyIter_enum he
      ⟨_, _, _, _, H1, rfl, I1.kept (t' := s1.toks) hk, turn_EzT a (s1.heap.objs.size + 1) s1.heap.objs.size, ⟨⟨.none, he⟩, hit, Nat.succ_ne_self _⟩, new2, q⟩
def YEnum (xs : List V) : Nat → Hp → V → Hp → Prop := fun i H v H' => ∃ T o x, v = .ref T ∧ H T = none ∧ o.dict = none ∧ H' = upd H T (.frz o (.tup [.int (i : Nat), x])) ∧ xs[i]? = some x
theorem walk_EzL {K : Frg} {a : Addr} {xs : List V} : Walk (EzL K a) xs.length (fun H => SqL K H a xs) (YEnum xs) :=
  ⟨fun i _ hi q => ⟨xs, xs[i], q, by simp [hi]⟩, fun _ q => ⟨xs, q, Nat.le_refl _⟩, fun i H v H' _ q ⟨T, o, x, h1, h2, h3, h4, h5⟩ => ⟨T, o, x, h1, h2, h3, h4, h5 xs q⟩⟩
theorem walk_EzT {K : Frg} {a : Addr} {xs : List V} : Walk (EzT K a) xs.length (fun H => SqT K H a xs) (YEnum xs) :=
  ⟨fun i _ hi q => ⟨xs, xs[i], q, by simp [hi]⟩, fun _ q => ⟨xs, q, Nat.le_refl _⟩, fun i H v H' _ q ⟨T, o, x, h1, h2, h3, h4, h5⟩ => ⟨T, o, x, h1, h2, h3, h4, h5 xs q⟩⟩
end DL

/-! The data layer, part 11: targets, what is walked. -/
namespace DL
open PySem PySem.Spec PyProof.Rows L2

section
variable {w : World} {K : Frg} {F0 H0 F H : Hp} {M0 M : List Addr} {S : Store} {sl : Slots} {σ : L2.St}
theorem fr_set {sl : Slots} {d : SV} {i : Nat} (f : d.free = true ∨ ∃ o, d = .own o) (h : ∀ (i : Nat) sv, sl[i]? = some (some sv) → sv.free = true ∨ ∃ o, sv = .own o) : ∀ (j : Nat) sv, (sl.set i (some d))[j]? = some (some sv) → sv.free = true ∨ ∃ o, sv = .own o := fun j sv e => by
  by_cases hj : i = j
  · subst hj
    by_cases hl : i < sl.length
    · rw [List.getElem?_set_self hl] at e
      cases e
      exact f
    · rw [List.getElem?_eq_none (by simpa using hl)] at e; cases e
  · rw [List.getElem?_set_ne hj] at e
    exact h j sv e
theorem Stt.set (st : Stt w K F0 M0 H0 F M S sl σ H) {v : V} {d : SV} (i : Nat) (f : d.free = true) (r : RSV w K H0 F M H v d) : Stt w K F0 M0 H0 F M S (sl.set i (some d)) (σ.set i (some v)) H := by
  refine ⟨st.base, by rw [List.length_set, List.length_set]; exact st.len, st.cls, fun j sv e => ?_, fun j l oj ol u ej el sj sl' => ?_, fun j sv e => ?_⟩
  · by_cases h : i = j
    · subst h
      have hl : i < sl.length := by
        have := (List.getElem?_eq_some_iff.mp e).1
        simpa using this
      rw [List.getElem?_set_self hl] at e
      cases e
      exact ⟨v, List.getElem?_set_self (by rw [← st.len]; exact hl), r⟩
    · rw [List.getElem?_set_ne h] at e
      obtain ⟨u, e1, e2⟩ := st.slots j sv e
      exact ⟨u, by rw [List.getElem?_set_ne h]; exact e1, e2⟩
  · have hj : i ≠ j := fun h => by
      subst h
      have hl : i < sl.length := by
        have := (List.getElem?_eq_some_iff.mp ej).1
        simpa using this
      rw [List.getElem?_set_self hl] at ej
      cases ej
      cases f
    have hl : i ≠ l := fun h => by
      subst h
      have hl : i < sl.length := by
        have := (List.getElem?_eq_some_iff.mp el).1
        simpa using this
      rw [List.getElem?_set_self hl] at el
      cases el
      cases f
    rw [List.getElem?_set_ne hj] at ej sj
    rw [List.getElem?_set_ne hl] at el sl'
    exact st.inj j l oj ol u ej el sj sl'
  · exact fr_set (.inl f) st.fr j sv e
/-- an object of one's own in a slot: it stands in no other -/
theorem Stt.setOwn (st : Stt w K F0 M0 H0 F M S sl σ H) {a : Addr} {o : OV} (i : Nat) (h0 : H0 a = none) (r : OwnAt w K F M H a o) (n : ∀ (j : Nat) u, sl[j]? = some (some (.own u)) → σ[j]? ≠ some (some (.ref a))) :
    Stt w K F0 M0 H0 F M S (sl.set i (some (.own o))) (σ.set i (some (.ref a))) H := by
  refine ⟨st.base, by rw [List.length_set, List.length_set]; exact st.len, st.cls, fun j sv e => ?_, fun j l oj ol u ej el sj sl' => ?_, fr_set (.inr ⟨o, rfl⟩) st.fr⟩
  · by_cases h : i = j
    · subst h
      have hl : i < sl.length := by
        have := (List.getElem?_eq_some_iff.mp e).1
        simpa using this
      rw [List.getElem?_set_self hl] at e
      cases e
      refine ⟨.ref a, List.getElem?_set_self (by rw [← st.len]; exact hl), ?_⟩
      unfold RSV
      exact ⟨a, rfl, h0, r⟩
    · rw [List.getElem?_set_ne h] at e
      obtain ⟨u, e1, e2⟩ := st.slots j sv e
      exact ⟨u, by rw [List.getElem?_set_ne h]; exact e1, e2⟩
  · have lt : ∀ {j : Nat} {o : OV}, (sl.set i (some (.own o)))[j]? = some (some (.own o)) → True := fun _ => trivial
    by_cases hj : i = j
    · by_cases hl : i = l
      · exact hj.symm.trans hl
      · subst hj
        have hi : i < sl.length := by
          have := (List.getElem?_eq_some_iff.mp ej).1
          simpa using this
        rw [List.getElem?_set_self (by rw [← st.len]; exact hi)] at sj
        cases sj
        rw [List.getElem?_set_ne hl] at el sl'
        exact absurd sl' (n l _ el)
    · by_cases hl : i = l
      · subst hl
        have hi : i < sl.length := by
          have := (List.getElem?_eq_some_iff.mp el).1
          simpa using this
        rw [List.getElem?_set_self (by rw [← st.len]; exact hi)] at sl'
        cases sl'
        rw [List.getElem?_set_ne hj] at ej sj
        exact absurd sj (n j _ ej)
      · rw [List.getElem?_set_ne hj] at ej sj
        rw [List.getElem?_set_ne hl] at el sl'
        exact st.inj j l oj ol u ej el sj sl'
theorem wipe_set {σ : L2.St} {i : Nat} {v : Option V} : ∀ {vs : List Nat}, i ∈ vs → wipe (σ.set i v) vs = wipe σ vs
  | [], h => absurd h (by simp)
  | j :: vs, h => by
    unfold wipe
    by_cases hj : i = j
    · subst hj
      by_cases hi : i ∈ vs
      · rw [wipe_set hi]
      · have : ∀ (vs : List Nat), i ∉ vs → wipe (σ.set i v) vs = (wipe σ vs).set i v := by
          intro vs
          induction vs with
          | nil => intro _; rfl
          | cons l vs ih =>
            intro hm
            simp only [List.mem_cons, not_or] at hm
            unfold wipe
            rw [ih hm.2, List.set_comm _ _ (fun e => hm.1 e)]
        rw [this vs hi, List.set_set]
    · rcases List.mem_cons.mp h with h | h
      · exact absurd h hj
      · rw [wipe_set h]
theorem wipeS_get {sl : Slots} {i : Nat} {x : SV} : ∀ {vs : List Nat}, (wipeS sl vs)[i]? = some (some x) → sl[i]? = some (some x) ∧ i ∉ vs
  | [], h => ⟨h, by simp⟩
  | v :: vs, h => by
    unfold wipeS at h
    by_cases hi : v = i
    · subst hi
      by_cases hv : v < (wipeS sl vs).length
      · rw [List.getElem?_set_self hv] at h; cases h
      · rw [List.getElem?_eq_none (by simpa using hv)] at h; cases h
    · rw [List.getElem?_set_ne hi] at h
      obtain ⟨h1, h2⟩ := wipeS_get h
      exact ⟨h1, by simp only [List.mem_cons, not_or]; exact ⟨fun e => hi e.symm, h2⟩⟩
theorem wipeS_length (sl : Slots) : ∀ vs : List Nat, (wipeS sl vs).length = sl.length
  | [] => rfl
  | v :: vs => by unfold wipeS; rw [List.length_set, wipeS_length sl vs]
theorem Stt.wipe (st : Stt w K F0 M0 H0 F M S sl σ H) (vs : List Nat) : Stt w K F0 M0 H0 F M S (wipeS sl vs) (L2.wipe σ vs) H := by
  refine ⟨st.base, by rw [wipeS_length, wipe_length]; exact st.len, st.cls, fun j sv e => ?_, fun j l oj ol u ej el sj sl' => ?_, fun j sv e => st.fr j sv (wipeS_get e).1⟩
  · obtain ⟨e1, e2⟩ := wipeS_get e
    obtain ⟨u, e3, e4⟩ := st.slots j sv e1
    exact ⟨u, by rw [wipe_out e2]; exact e3, e4⟩
  · obtain ⟨e1, e2⟩ := wipeS_get ej
    obtain ⟨e3, e4⟩ := wipeS_get el
    rw [wipe_out e2] at sj
    rw [wipe_out e4] at sl'
    exact st.inj j l oj ol u e1 e3 sj sl'
end

section
variable {X : Cx} {G : Pg} {E : Ev} {k : Nat} {c : Cn}
theorem PG.imp {X : Cx} {e : Expr} {t t' : TG} (h : PG X e t) (i : ∀ v σ H Q, t' v σ H Q → t v σ H Q) : PG X e t' := ⟨fun pins s σ H v u Q I r hq => h.run pins s σ H v u Q I r (i _ _ _ _ hq)⟩
theorem chN_name {i : Nat} {e : Expr} (h : chN c i e = true) : ∃ x pos, e = .Name x pos ∧ slotB c i x = true ∧ locB c x = true := by
  cases e with
  | Name x pos =>
    unfold chN at h
    rw [Bool.and_eq_true] at h
    exact ⟨x, pos, rfl, h.1, h.2⟩
  | _ => simp [chN] at h
theorem CnOk.loc (C : CnOk X c) {x : Str} (h : locB c x = true) : L2.Loc X.env.scope x ∧ (X.fn x = true ∨ X.env.scope.names.lookup x = some .local) := by
  rw [C.sc, C.fn]
  unfold locB at h
  unfold L2.Loc
  split at h
  · exact ⟨.inl (by assumption), .inr (by assumption)⟩
  · exact ⟨.inr (by assumption), .inl h⟩
  · cases h
theorem g_name (T : X.N.Nodup) (C : CnOk X c) {i : Nat} {e : Expr} (h : chN c i e = true) : PG X e (gName i) := by
  obtain ⟨x, pos, rfl, h1, h2⟩ := chN_name h
  obtain ⟨l1, l2⟩ := C.loc h2
  exact pg_name T (C.slot h1) l1 l2
def gNs : List Nat → TGs
  | [] => gNil
  | i :: is => gCons (gName i) (gNs is)
theorem assignEach_names : ∀ {is : List Nat} {es : List Expr} {env : Env}, chNs c is es = true → (assignEach es env).map (·.2) = es.map (fun e => assign e env) ∧ (assignEach es env).length = es.length ∧ (assignEach es env).findIdx? (·.1) = none
  | [], [], _, _ => ⟨rfl, rfl, rfl⟩
  | i :: is, e :: es, env, h => by
    unfold chNs at h
    rw [Bool.and_eq_true] at h
    obtain ⟨x, pos, rfl, _, _⟩ := chN_name h.1
    obtain ⟨a, b, d⟩ := assignEach_names (env := env) h.2
    have : assignEach (.Name x pos :: es) env = (false, assign (.Name x pos) env) :: assignEach es env := rfl
    refine ⟨by rw [this, List.map_cons, a]; rfl, by rw [this, List.length_cons, b]; rfl, ?_⟩
    rw [this, List.findIdx?_cons]
    simp [d]
  | [], _ :: _, _, h => by unfold chNs at h; cases h
  | _ :: _, [], _, h => by unfold chNs at h; cases h
theorem g_names (T : X.N.Nodup) (C : CnOk X c) : ∀ {is : List Nat} {es : List Expr}, chNs c is es = true → PGs X es (gNs is)
  | [], [], _ => pgs_nil
  | i :: is, e :: es, h => by
    unfold chNs at h
    rw [Bool.and_eq_true] at h
    refine pgs_cons (g_name T C h.1) (g_names T C h.2) ?_
    obtain ⟨x, pos, rfl, _, _⟩ := chN_name h.1
    rfl
  | [], _ :: _, h => by unfold chNs at h; cases h
  | _ :: _, [], h => by unfold chNs at h; cases h
theorem chNs_len : ∀ {is : List Nat} {es : List Expr}, chNs c is es = true → is.length = es.length
  | [], [], _ => rfl
  | i :: is, e :: es, h => by
    unfold chNs at h
    rw [Bool.and_eq_true] at h
    rw [List.length_cons, List.length_cons, chNs_len h.2]
  | [], _ :: _, h => by unfold chNs at h; cases h
  | _ :: _, [], h => by unfold chNs at h; cases h
/-- several names, each its datum -/
theorem gNs_imp {w : World} {K : Frg} {F0 H0 F H : Hp} {M0 M : List Addr} {S : Store} {Q : L2.St → Hp → Prop} : ∀ {is : List Nat} {ds : List D} {xs : List V} {sl sl' : Slots} {σ : L2.St}, Stt w K F0 M0 H0 F M S sl σ H → Rps K F xs ds → setAll is (ds.map .val) sl = some sl' →
    (∀ σ', (∀ vs : List Nat, (∀ i ∈ is, i ∈ vs) → wipe σ' vs = wipe σ vs) → Stt w K F0 M0 H0 F M S sl' σ' H → Q σ' H) → gNs is xs σ H Q
  | [], [], _, _, _, σ, st, .nil, e, q => by
    cases e
    exact ⟨rfl, q σ (fun _ _ => rfl) st⟩
  | i :: is, d :: ds, _, sl, sl', σ, st, .cons (v := v) h r, e, q => by
    refine ⟨_, _, rfl, ?_⟩
    refine gNs_imp (st.set i (d := .val d) rfl (rsv_d h)) r e fun σ' hw st' => q σ' (fun vs hv => ?_) st'
    rw [hw vs fun j hj => hv j (List.mem_cons_of_mem _ hj), wipe_set (hv i List.mem_cons_self)]
  | [], _ :: _, _, _, _, _, _, .cons _ _, e, _ => by cases e
  | _ :: _, [], _, _, _, _, _, .nil, e, _ => by cases e
theorem setAll_len {α : Type} : ∀ {is : List Nat} {vs : List SV} {sl sl' : Slots}, setAll is vs sl = some sl' → is.length = vs.length
  | [], [], _, _, _ => rfl
  | i :: is, v :: vs, sl, sl', e => by rw [List.length_cons, List.length_cons, setAll_len (α := α) (show setAll is vs _ = some sl' from e)]
  | [], _ :: _, _, _, e => by cases e
  | _ :: _, [], _, _, e => by cases e
theorem r_tg (hc : X.calm = true) (T : X.N.Nodup) (C : CnOk X c) {tg : Tg} {e : Expr} (h : chG c tg e = true) : PG X e (tG X.w X.K tg) := by
  cases tg with
  | nm i =>
    refine PG.imp (g_name T C (i := i) (by unfold chG at h; exact h)) fun v σ H Q hh => ?_
    obtain ⟨F0, M0, H0, F, M, S, sl, d, sl', st, f, r, e1, q⟩ := hh
    cases e1
    exact q _ (fun vs hv => wipe_set (hv i (by simp [Tg.ix]))) (st.set i f r)
  | tp is =>
    cases e with
    | Tuple es k2 pos =>
      unfold chG at h
      obtain ⟨a1, a2, a3⟩ := assignEach_names (env := X.env) h
      refine PG.imp (pg_tup hc (g_names T C h) (n := es.length) a2 a3) fun v σ H Q hh => ?_
      obtain ⟨F0, M0, H0, F, M, S, sl, d, sl', st, f, r, e1, q⟩ := hh
      unfold asgT at e1
      split at e1
      · cases ‹Tg.tp _ = Tg.nm _›
      · rename_i ds hd
        cases hd
        obtain ⟨a, xs, rfl, hq, _, rr⟩ := (dat_rp r).tup_inv
        have hl := setAll_len (α := Nat) e1
        rw [List.length_map] at hl
        refine ⟨a, xs, rfl, SqT.sub st.sub hq, ?_, gNs_imp st rr e1 q⟩
        rw [rr.length, ← hl, chNs_len h]
      · rename_i i j x y hd
        cases hd
        cases e1
        unfold RSV at r
        obtain ⟨p, u, v, rfl, hq, r1, r2⟩ := r
        have f : (x.free && y.free) = true := f
        rw [Bool.and_eq_true] at f
        refine ⟨p, [u, v], rfl, SqT.sub st.sub hq, by rw [← chNs_len h]; rfl, u, [v], rfl, v, [], rfl, rfl, ?_⟩
        refine q _ (fun vs hv => ?_) ((st.set i f.1 r1).set j f.2 r2)
        rw [wipe_set (hv j (by simp [Tg.ix])), wipe_set (hv i (by simp [Tg.ix]))]
      · cases ‹Tg.tp _ = Tg.tq _ _›
      · cases e1
    | _ => simp [chG] at h
  | tq i is =>
    unfold chG at h
    split at h
    · cases ‹Tg.tq _ _ = Tg.nm _›
    · cases ‹Tg.tq _ _ = Tg.tp _›
    · rename_i e1 es k3 p3 k2 p2 hd
      cases hd
      rw [Bool.and_eq_true] at h
      obtain ⟨a1, a2, a3⟩ := assignEach_names (env := X.env) h.2
      have g2 := pg_tup (k := k3) (pos := p3) hc (g_names T C h.2) (n := es.length) a2 a3
      obtain ⟨x, px, rfl, s1, s2⟩ := chN_name h.1
      refine PG.imp (pg_tup hc (pgs_cons (g_name T C h.1) (pgs_cons g2 pgs_nil rfl) rfl) (n := 2) rfl rfl) fun v σ H Q hh => ?_
      obtain ⟨F0, M0, H0, F, M, S, sl, d, sl', st, f, r, e1, q⟩ := hh
      unfold asgT at e1
      split at e1
      · cases ‹Tg.tq _ _ = Tg.nm _›
      · cases ‹Tg.tq _ _ = Tg.tp _›
      · cases ‹Tg.tq _ _ = Tg.tp _›
      · rename_i d0 ds hd
        cases hd
        obtain ⟨a, xs, rfl, hq, _, rr⟩ := (dat_rp r).tup_inv
        cases rr with
        | cons r1 rr =>
          cases rr with
          | cons r2 rr =>
            cases rr
            obtain ⟨b, ys, rfl, hq2, _, rr2⟩ := r2.tup_inv
            have hl := setAll_len (α := Nat) e1
            rw [List.length_map] at hl
            refine ⟨a, _, rfl, SqT.sub st.sub hq, rfl, _, _, rfl, ⟨_, _, rfl, ⟨b, ys, rfl, SqT.sub st.sub hq2, by rw [rr2.length, ← hl, chNs_len h.2], ?_⟩⟩⟩
            refine gNs_imp (st.set i (d := .val d0) rfl (rsv_d r1)) rr2 e1 fun σ' hw st' => ⟨rfl, q σ' (fun vs hv => ?_) st'⟩
            rw [hw vs fun j hj => hv j (List.mem_cons_of_mem _ hj), wipe_set (hv i (by simp [Tg.ix]))]
      · cases e1
    · cases h

/-! ### what is walked -/
theorem walkD_list {K : Frg} {F : Hp} {a : Addr} {xs : List V} {ds : List D} (h : SqL K F a xs) (r : Rps K F xs ds) (z : xs.length ≤ sizeLine) : WkD K F (Itl K a) ds := by
  refine ⟨?_, by rw [← r.length]; exact z⟩
  rw [← r.length]
  refine walk_list.mono (fun H s => SqL.sub s h) fun i H x H' hi s y => ?_
  obtain ⟨d, e, q⟩ := r.get' y.2
  exact ⟨d, e, .inl ⟨y.1, q⟩⟩
theorem walkD_tup {K : Frg} {F : Hp} {a : Addr} {xs : List V} {ds : List D} (h : SqT K F a xs) (r : Rps K F xs ds) (z : xs.length ≤ sizeLine) : WkD K F (Itt K a) ds := by
  refine ⟨?_, by rw [← r.length]; exact z⟩
  rw [← r.length]
  refine walk_tup.mono (fun H s => SqT.sub s h) fun i H x H' hi s y => ?_
  obtain ⟨d, e, q⟩ := r.get' y.2
  exact ⟨d, e, .inl ⟨y.1, q⟩⟩
theorem walkD_str {K : Frg} {F : Hp} {x : Str} (o : PyData.strOk x = true) (z : x.length ≤ sizeLine) : WkD K F (Its x) (x.cps.toList.map strD) := by
  have hl : (x.cps.toList.map strD).length = x.cps.size := by simp
  refine ⟨?_, by rw [hl]; exact z⟩
  rw [hl]
  refine walk_str.mono (fun H s => trivial) fun i H v H' hi s y => ?_
  obtain ⟨e1, c, e2, rfl⟩ := y
  refine ⟨strD c, by rw [List.getElem?_map]; simp [e2], .inl ⟨e1, .str ?_ (by show 1 ≤ sizeLine; rw [sizeLine_eq]; decide)⟩⟩
  unfold PyData.strOk at o ⊢
  rw [Array.all_eq_true_iff_forall_mem] at o
  have hm : c ∈ x.cps := Array.mem_of_getElem? e2
  have := o c hm
  simpa using this
theorem walkD_rng {K : Frg} {F : Hp} {lo : Int} {n : Nat} (z : n ≤ sizeLine) : WkD K F (L2.Itr lo n) (rngD lo n) := by
  have hl : (rngD lo n).length = n := by simp [rngD]
  refine ⟨?_, by rw [hl]; exact z⟩
  rw [hl]
  refine walk_range.mono (fun H s => trivial) fun i H v H' hi s y => ?_
  obtain ⟨e1, rfl⟩ := y
  refine ⟨.int (lo + (i : Nat)), ?_, .inl ⟨e1, .int _⟩⟩
  unfold rngD
  rw [List.getElem?_map, List.getElem?_range hi]
  rfl
/-- an iterator of a value -/
theorem it_seq {pins : List (Addr × Obj)} {s : Shared} {τ : L2.St} {H : Hp} {R : It → Hp → Prop} {tg : Expr} {v : V} {u : Value} {sv : SV} {ds : List D} {F0 H0 F : Hp} {M0 M : List Addr} {S : Store} {sl : Slots} {σ : L2.St}
    (I : L2.Inv X pins τ H s) (ru : RelV v u) (st : Stt X.w X.K F0 M0 H0 F M S sl σ H) (r : RSV X.w X.K H0 F M H v sv) (e : seqD sv = some ds) (q : ∀ J, WkD X.K F J ds → R J H) : wpAny (model X.prog X.w) X.A (pyIter u) (PIE X pins τ tg R) X.xe s := by
  have lst : ∀ {a : Addr} {xs : List V} {ds : List D}, SqL X.K F a xs → Rps X.K F xs ds → xs.length ≤ sizeLine → (∀ J, WkD X.K F J ds → R J H) → wpAny (model X.prog X.w) X.A (pyIter (.ref a)) (PIE X pins τ tg R) X.xe s := by
    intro a xs ds h rr z q
    obtain ⟨its, rv, p, hz⟩ := I.list (SqL.sub st.sub h)
    refine wpAny_pyIter_list p.isList ?_
    refine ⟨s.heap.objs.size, [s.heap.objs.size], _, _, H, rfl, I.kept (t' := s.toks) fun b o e => Heap.get?_push_of_some _ e, turn_list a _, ⟨_, Heap.get?_push_size _ rfl, rfl, rfl⟩, fun b hb => ?_, q _ (walkD_list h rr z)⟩
    have e : b = s.heap.objs.size := by simpa using hb
    subst e
    exact I.fpOk (Nat.le_refl _) (I.hok.fresh (Nat.le_refl _))
  unfold seqD at e
  split at e
  · cases e
    obtain ⟨a, xs, rfl, hq, z, rr⟩ := (dat_rp r).lst_inv
    cases ru
    exact lst (SqL.of hq) rr z q
  · cases e
    obtain ⟨a, xs, rfl, hq, z, rr⟩ := (dat_rp r).tup_inv
    cases ru
    obtain ⟨its, rv, p, hz⟩ := I.tuple (SqT.sub st.sub hq)
    refine wpAny_pyIter_tuple (show s.heap.IsTuple a its.toArray from p) ?_
    refine ⟨s.heap.objs.size, [s.heap.objs.size], _, _, H, rfl, I.kept (t' := s.toks) fun b o e => Heap.get?_push_of_some _ e, turn_tuple a _, ⟨_, Heap.get?_push_size _ rfl, rfl, rfl⟩, fun b hb => ?_, q _ (walkD_tup hq rr z)⟩
    have e : b = s.heap.objs.size := by simpa using hb
    subst e
    exact I.fpOk (Nat.le_refl _) (I.hok.fresh (Nat.le_refl _))
  · cases e
    rename_i x
    obtain ⟨rfl, o, z⟩ := (dat_rp r).str_inv
    obtain ⟨t, rfl⟩ := ru
    cases ha : x.cps.all (· < 128)
    · exact wpAny_pyIter_wide ha (pi_one (tk := s.toks) I _ (turn_str _ x t "str_iterator" (.inr rfl)) ⟨_, Heap.get?_push_size _ rfl, rfl, rfl⟩ (q _ (walkD_str o z)))
    · exact wpAny_pyIter_ascii ha (pi_one (tk := s.toks) I _ (turn_str _ x t "str_ascii_iterator" (.inl rfl)) ⟨_, Heap.get?_push_size _ rfl, rfl, rfl⟩ (q _ (walkD_str o z)))
  · cases e
    unfold RSV at r
    obtain ⟨a, rfl, z, hq⟩ := r
    cases ru
    exact lst hq (intsRp _) (by rw [List.length_map]; exact z) q
  · cases e
    unfold RSV at r
    obtain ⟨a, rfl, h⟩ := r
    cases ru
    exact it_dct I st h q
  · cases e
theorem r_iseq {a : Ex} {tg x : Expr} (ha : PE X x (tM X.w X.K fun sl S => evE E sl S a)) : PI X tg x (tI X.w X.K fun sl S => evI E sl S (.seq a)) := by
  refine ⟨fun pins s σ H R I hh => ?_⟩
  obtain ⟨F0, M0, H0, F, M, S, sl, ds, S', st, e, kk⟩ := hh
  dsimp only at e
  unfold evI at e
  split at e
  · rename_i v S1 e1
    obtain ⟨z, e2, e3⟩ := Option.map_eq_some_iff.mp e
    cases e3
    refine thn (ha.run pins s σ H (fun x H1 => ∃ F1 M1, Xt F M H F1 M1 H1 ∧ Stt X.w X.K F0 M0 H0 F1 M1 _ sl σ H1 ∧ RSV X.w X.K H0 F1 M1 H1 x v) I (tX_of (tX_then st e1 fun F1 M1 H1 v1 x1 st1 f1 q1 => ⟨F1, M1, x1, st1, q1⟩))) fun u s1 ⟨y, H1, I1, r1, F1, M1, x1, st1, q1⟩ => ?_
    exact it_seq I1 r1 st1 q1 e2 fun J wk => kk F1 M1 H1 J x1 st1 wk
  · cases e
theorem r_irng (T : Ctx X G E k) (C : CnOk X c) {a : Ex} {tg x : Expr} {p pos : Pos} (hg : glB c.sc "range" = true) (ha : PE X x (tM X.w X.K fun sl S => evE E sl S a)) (hn : notStar x = true) : PI X tg (.Call (.Name "range" p) [x] [] pos) (tI X.w X.K fun sl S => evI E sl S (.rng a)) := by
  obtain ⟨gl, db⟩ := C.gl hg
  refine PI.imp (pi_range1 gl (mg_blt T (by decide +kernel)) (pa_cons ha pa_nil (star_cons hn)) (star_one hn)) fun σ H R hh => ?_
  obtain ⟨F0, M0, H0, F, M, S, sl, ds, S', st, e, kk⟩ := hh
  dsimp only at e
  unfold evI at e
  split at e
  · rename_i i S1 e1
    split at e
    · rename_i hz
      cases e
      refine tM_then st (int_inv e1) fun F1 M1 H1 v1 x1 st1 r1 n1 => ?_
      cases r1.dat.int_inv
      exact ⟨i, rfl, by omega, by omega, kk F1 M1 H1 _ x1 st1 (walkD_rng (n := i.toNat) (by rw [sizeLine_eq]; omega))⟩
    · cases e
  · cases e
theorem r_irng2 (T : Ctx X G E k) (C : CnOk X c) {a b : Ex} {tg x y : Expr} {p pos : Pos} (hg : glB c.sc "range" = true) (ha : PE X x (tM X.w X.K fun sl S => evE E sl S a)) (hb : PE X y (tM X.w X.K fun sl S => evE E sl S b)) (hn : notStar x = true) (hn2 : notStar y = true) :
    PI X tg (.Call (.Name "range" p) [x, y] [] pos) (tI X.w X.K fun sl S => evI E sl S (.rng2 a b)) := by
  obtain ⟨gl, db⟩ := C.gl hg
  refine PI.imp (pi_range2 gl (mg_blt T (by decide +kernel)) (pa_cons ha (pa_cons hb pa_nil (star_cons hn2)) (star_cons hn)) (by rw [star_cons hn, star_one hn2]) (star_one hn2)) fun σ H R hh => ?_
  obtain ⟨F0, M0, H0, F, M, S, sl, ds, S', st, e, kk⟩ := hh
  dsimp only at e
  unfold evI at e
  split at e
  · rename_i i S1 e1
    split at e
    · rename_i j S2 e2
      split at e
      · rename_i hz
        cases e
        refine tM_then st (int_inv e1) fun F1 M1 H1 v1 x1 st1 r1 n1 => tM_then st1 (int_inv e2) fun F2 M2 H2 v2 x2 st2 r2 n2 => ?_
        cases r1.dat.int_inv
        cases r2.dat.int_inv
        exact ⟨i, j, rfl, ⟨hz.1, hz.2.1, hz.2.2.1, hz.2.2.2.1⟩, kk F2 M2 H2 _ (x1.trans x2) st2 (walkD_rng (n := (j - i).toNat) (by rw [sizeLine_eq]; omega))⟩
      · cases e
    · cases e
  · cases e
theorem zip_get {xs ys : List D} {i : Nat} {x y : D} (h1 : xs[i]? = some x) (h2 : ys[i]? = some y) : (zipD xs ys)[i]? = some (.tuple [x, y]) := by
  unfold zipD
  rw [List.getElem?_map, (List.getElem?_zip_eq_some (z := (x, y))).mpr ⟨h1, h2⟩]
  rfl
theorem zipD_len {K : Frg} {F : Hp} {xs ys : List V} {ds es : List D} (r : Rps K F xs ds) (q : Rps K F ys es) : (zipD ds es).length = min xs.length ys.length := by
  unfold zipD
  rw [List.length_map, List.length_zip, r.length, q.length]
theorem zip_yd {K : Frg} {F : Hp} {xs ys : List V} {ds es : List D} (r : Rps K F xs ds) (q : Rps K F ys es) {i : Nat} {H H' : Hp} {v : V} (y : YPairZ (fun i => xs[i]?) (fun i => ys[i]?) i H v H') : YD K F (zipD ds es) i H v H' := by
  obtain ⟨T, o, x, z, h1, h2, h0, h3, h4, h5⟩ := y
  obtain ⟨d1, e1, q1⟩ := r.get' h4
  obtain ⟨d2, e2, q2⟩ := q.get' h5
  exact ⟨_, zip_get e1 e2, .inr ⟨T, o, x, z, d1, d2, h1, h2, h0, h3, q1, q2, rfl⟩⟩
theorem r_izip (T : Ctx X G E k) (C : CnOk X c) {a b : Ex} {x y : Expr} {p pos tpos : Pos} {elts : List Expr} {kk2 : Nat} (hg : glB c.sc "zip" = true) (ha : PE X x (tM X.w X.K fun sl S => evE E sl S a)) (hb : PE X y (tM X.w X.K fun sl S => evE E sl S b)) (hn : notStar x = true) (hn2 : notStar y = true) :
    PI X (.Tuple elts kk2 tpos) (.Call (.Name "zip" p) [x, y] [] pos) (tI X.w X.K fun sl S => evI E sl S (.zip a b)) := by
  obtain ⟨gl, db⟩ := C.gl hg
  refine PI.imp (pi_zipZ gl (mg_blt T (by decide +kernel)) (pa_cons ha (pa_cons hb pa_nil (star_cons hn2)) (star_cons hn)) (star_cons hn) (star_plain fun z hz => by simp at hz; subst hz; exact hn2)) fun σ H R hh => ?_
  obtain ⟨F0, M0, H0, F, M, S, sl, ds, S', st, e, kk⟩ := hh
  dsimp only at e
  unfold evI at e
  split at e
  · rename_i d1 S1 e1
    split at e
    · rename_i d2 S2 e2
      refine tX_of (tX_then st (dat_inv e1) fun F1 M1 H1 v1 x1 st1 f1 q1 => tX_of (tX_then st1 (dat_inv e2) fun F2 M2 H2 v2 x2 st2 f2 q2 => ?_))
      have q1 := Rp.sub x2.frz (dat_rp q1)
      have q2 := dat_rp q2
      split at e
      · cases e
        obtain ⟨p1, xs, rfl, h1, z1, r1⟩ := q1.lst_inv
        obtain ⟨p2, ys, rfl, h2, z2, r2⟩ := q2.lst_inv
        refine ⟨p1, p2, xs, ys, rfl, .inl ⟨SqL.of (st2.sub _ _ h1), SqL.of (st2.sub _ _ h2), kk F2 M2 H2 _ (x1.trans x2) st2 ⟨?_, ?_⟩⟩⟩
        · exact (walk_ZzL (zipD_len r1 r2)).mono (fun H s => ⟨SqL.of (s _ _ h1), SqL.of (s _ _ h2)⟩) fun i H x H' hi s y => zip_yd r1 r2 y
        · rw [zipD_len r1 r2]; omega
      · cases e
        obtain ⟨p1, xs, rfl, h1, z1, r1⟩ := q1.tup_inv
        obtain ⟨p2, ys, rfl, h2, z2, r2⟩ := q2.tup_inv
        refine ⟨p1, p2, xs, ys, rfl, .inr ⟨SqT.sub st2.sub h1, SqT.sub st2.sub h2, kk F2 M2 H2 _ (x1.trans x2) st2 ⟨?_, ?_⟩⟩⟩
        · exact (walk_ZzT (zipD_len r1 r2)).mono (fun H s => ⟨SqT.sub s h1, SqT.sub s h2⟩) fun i H x H' hi s y => zip_yd r1 r2 y
        · rw [zipD_len r1 r2]; omega
      · cases e
    · cases e
  · cases e
theorem enm_get {xs : List D} {i : Nat} {x : D} (h1 : xs[i]? = some x) : (enmD xs)[i]? = some (.tuple [.int (i : Nat), x]) := by
  unfold enmD
  have hl : i < xs.length := (List.getElem?_eq_some_iff.mp h1).1
  rw [List.getElem?_map, (List.getElem?_zip_eq_some (z := (i, x))).mpr ⟨List.getElem?_range hl, h1⟩]
  rfl
theorem enmD_len {K : Frg} {F : Hp} {xs : List V} {ds : List D} (r : Rps K F xs ds) : (enmD ds).length = xs.length := by
  unfold enmD
  rw [List.length_map, List.length_zip, List.length_range, r.length, Nat.min_self]
theorem enm_yd {K : Frg} {F : Hp} {xs : List V} {ds : List D} (r : Rps K F xs ds) {i : Nat} {H H' : Hp} {v : V} (y : YEnum xs i H v H') : YD K F (enmD ds) i H v H' := by
  obtain ⟨T, o, x, h1, h2, h0, h3, h4⟩ := y
  obtain ⟨d1, e1, q1⟩ := r.get' h4
  exact ⟨_, enm_get e1, .inr ⟨T, o, _, x, .int (i : Nat), d1, h1, h2, h0, h3, .int _, q1, rfl⟩⟩
theorem r_ienm (T : Ctx X G E k) (C : CnOk X c) {a : Ex} {x : Expr} {p pos tpos : Pos} {elts : List Expr} {kk2 : Nat} (hg : glB c.sc "enumerate" = true) (ha : PE X x (tM X.w X.K fun sl S => evE E sl S a)) (hn : notStar x = true) :
    PI X (.Tuple elts kk2 tpos) (.Call (.Name "enumerate" p) [x] [] pos) (tI X.w X.K fun sl S => evI E sl S (.enm a)) := by
  obtain ⟨gl, db⟩ := C.gl hg
  refine PI.imp (pi_enumZ gl (mg_blt T (by decide +kernel)) (pa_cons ha pa_nil (star_cons hn)) (star_cons hn)) fun σ H R hh => ?_
  obtain ⟨F0, M0, H0, F, M, S, sl, ds, S', st, e, kk⟩ := hh
  dsimp only at e
  unfold evI at e
  split at e
  · rename_i xs S1 e1
    cases e
    refine tX_of (tX_then st (dat_inv e1) fun F1 M1 H1 v1 x1 st1 f1 q1 => ?_)
    obtain ⟨p1, us, rfl, h1, z1, r1⟩ := (dat_rp q1).lst_inv
    exact ⟨p1, us, rfl, .inl ⟨SqL.of (st1.sub _ _ h1), kk F1 M1 H1 _ x1 st1 ⟨by rw [enmD_len r1]; exact walk_EzL.mono (fun H s => SqL.of (s _ _ h1)) fun i H x H' hi s y => enm_yd r1 y, by rw [enmD_len r1]; exact z1⟩⟩⟩
  · rename_i xs S1 e1
    cases e
    refine tX_of (tX_then st (dat_inv e1) fun F1 M1 H1 v1 x1 st1 f1 q1 => ?_)
    obtain ⟨p1, us, rfl, h1, z1, r1⟩ := (dat_rp q1).tup_inv
    exact ⟨p1, us, rfl, .inr ⟨SqT.sub st1.sub h1, kk F1 M1 H1 _ x1 st1 ⟨by rw [enmD_len r1]; exact walk_EzT.mono (fun H s => SqT.sub s h1) fun i H x H' hi s y => enm_yd r1 y, by rw [enmD_len r1]; exact z1⟩⟩⟩
  · cases e
end
end DL

namespace DL
open PySem PySem.Spec PyProof.Rows L2
theorem adjust_rev (n : Nat) : Builtin.Slice.sliceAdjust none none (-1) (n : Int) = ((n : Int) - 1, -1) := rfl
theorem places_rev (n : Nat) : Builtin.Slice.slicePlaces ((n : Int) - 1) (-1) (-1) = n := by
  unfold Builtin.Slice.slicePlaces
  simp only [show ¬ ((-1 : Int) > 0) from by omega, if_false]
  split <;> simp_all <;> omega
theorem fm_map {α β : Type} {f : α → Option β} {g : α → β} : ∀ l : List α, (∀ m ∈ l, f m = some (g m)) → l.filterMap f = l.map g
  | [], _ => rfl
  | a :: l, h => by
    rw [List.filterMap_cons, h a List.mem_cons_self, List.map_cons, fm_map l fun m hm => h m (List.mem_cons_of_mem _ hm)]
theorem pick_rev (xs : Array Value) : ((List.range xs.size).filterMap fun (m : Nat) => xs[((xs.size : Int) - 1 + (m : Int) * (-1)).toNat]?).toArray = xs.toList.reverse.toArray := by
  congr 1
  have e : List.filterMap (fun (m : Nat) => xs[((xs.size : Int) - 1 + (m : Int) * (-1)).toNat]?) (List.range xs.size) = (List.range xs.size).map (fun m => xs.toList.reverse.getD m .none) := by
    refine fm_map _ fun m hm => ?_
    rw [List.mem_range] at hm
    have h1 : ((xs.size : Int) - 1 + (m : Int) * (-1)).toNat = xs.size - 1 - m := by omega
    rw [h1, Array.getElem?_eq_getElem (by omega), List.getD_eq_getElem?_getD, List.getElem?_eq_getElem (by simp; omega)]
    simp [List.getElem_reverse]
  rw [e]
  apply List.ext_getElem
  · simp
  · intro i h1 h2
    simp only [List.getElem_map, List.getElem_range, List.getD_eq_getElem?_getD]
    rw [List.getElem?_eq_getElem (by simpa using h2)]
    rfl
section
variable {prog : Program} {w : World} {A : Around} {E : Value → Shared → Prop} {s : Shared}
theorem sliceAll_rev {q : Addr} {vs : Value} {n : Nat} {Q : Int × Int × Nat → Shared → Prop} (hs : s.heap.IsSliceOf q .none .none vs) (ps : IsPart vs (some (-1))) (h : Q ((n : Int) - 1, -1, n) s) : wpAny (model prog w) A (Builtin.Slice.sliceApplied (.ref q) (pure (n : Int))) Q E s := by
  obtain ⟨os, o1, o2, o3⟩ := id hs
  unfold Builtin.Slice.sliceApplied Builtin.Slice.sliceFields
  refine wpAny_bind (wpAny_bind (wpAny_field o1 o3 (x := .none) rfl (wpAny_bind (wpAny_field o1 o3 (x := .none) rfl (wpAny_bind (wpAny_field o1 o3 (x := vs) rfl (wpAny_pure ?_)))))))
  refine wpAny_bind (HT.slicePart_ ps ?_)
  show wpAny _ _ (if ((-1 : Int) == 0) = true then _ else _) _ _ s
  rw [if_neg (show ¬ ((-1 : Int) == 0) = true by decide)]
  refine wpAny_bind (HT.slicePart_ .none (wpAny_bind (HT.slicePart_ .none (wpAny_bind (wpAny_pure ?_)))))
  show wpAny _ _ (match Builtin.Slice.sliceAdjust none none (-1) (n : Int) with | (lo, hi) => pure (lo, (-1 : Int), Builtin.Slice.slicePlaces lo hi (-1))) _ _ s
  rw [adjust_rev n]
  show wpAny _ _ (pure ((n : Int) - 1, (-1 : Int), Builtin.Slice.slicePlaces ((n : Int) - 1) (-1) (-1))) _ _ s
  rw [places_rev]
  exact wpAny_pure h
theorem tuple_rev {t q : Addr} {items : Array Value} {vs : Value} {Q : Value → Shared → Prop} (ht : IsTup s.heap t items) (hs : s.heap.IsSliceOf q .none .none vs) (ps : IsPart vs (some (-1)))
    (h : Q (.ref s.heap.objs.size) { s with heap := s.heap.push { cls := .type "tuple", data := .seq items.toList.reverse.toArray } }) (hz : items.size ≤ sizeLine) : wpAny (model prog w) A (getItem (.ref t) (.ref q)) Q E s := by
  have fits : sizeOk (.seq items.toList.reverse.toArray) := by
    show items.toList.reverse.toArray.size ≤ sizeLine
    rw [List.size_toArray, List.length_reverse, Array.length_toList]
    exact hz
  obtain ⟨os, o1, o2, o3⟩ := id hs
  have hq : s.TypeIs (.ref q) "slice" := ⟨os, o1, o2⟩
  unfold getItem
  try with_reducible refine wpAny_holding ?_
  first | refine wpAny_bind (wpAny_pure ?_) | skip
  refine wpAny_bind (wpAny_sequenceKey ht.typeIs (by decide) ?_)
  refine wpAny_bind (wpAny_callSpecial?_slot (name := Str.ofString "__getitem__") ht.typeIs slot_tuple_getitem (wpAny_call_entry slot_tuple_getitem ht.typeIs entry_tuple_getitem ?_ (args_tuple_getitem _ _)))
  show wpAny _ _ (Builtin.Tuple.tupleItemsOf (.ref t) >>= _) _ _ s
  refine wpAny_bind (tupleItemsOf_ ht (wpAny_bind (wpAny_typeOf hq ?_)))
  rw [if_pos (show ((Value.type "slice" == Value.type "slice") = true) by decide)]
  refine wpAny_bind (sliceAll_rev hs ps ?_)
  show wpAny _ _ (if (((items.size : Int) - 1) == 0 && (-1 : Int) == 1 && items.size == items.size) = true then _ else _) _ _ s
  have no : ¬ ((((items.size : Int) - 1) == 0 && (-1 : Int) == 1 && items.size == items.size) = true) := by
    rw [show ((-1 : Int) == 1) = false by decide, Bool.and_false, Bool.false_and]
    exact Bool.false_ne_true
  rw [if_neg no, pick_rev]
  first
    | exact wpAny_bind (m := Builtin.Tuple.tupleExact _) (wpAny_newObj_type (wpAny_pure ⟨_, rfl, wpAny_pure h⟩) fits)
    | exact wpAny_bind (m := Builtin.Tuple.tupleExact _) (wpAny_newObj_type (wpAny_bind (wpAny_pure (wpAny_pure ⟨_, rfl, wpAny_pure h⟩))) fits)
    | exact wpAny_bind (wpAny_bind (m := Builtin.Tuple.tupleExact _) (wpAny_newObj_type (wpAny_pure (wpAny_pure ⟨_, rfl, wpAny_pure h⟩)) fits))
    | exact wpAny_bind (wpAny_bind (m := Builtin.Tuple.tupleExact _) (wpAny_newObj_type (wpAny_pure ⟨_, rfl, wpAny_pure h⟩) fits))
end
end DL

/-! The data layer, part 12: comprehensions; the whole of expressions. -/
namespace DL
open PySem PySem.Spec PyProof.Rows L2

section
variable {X : Cx} {G : Pg} {E : Ev} {k : Nat} {c : Cn}
theorem ownOf_ix (N : List Str) (own : List Nat) : (ownOf N own).map (·.2) = own := by
  unfold ownOf
  rw [List.map_map]
  exact List.map_id'' (fun _ => rfl) own
theorem noFold {a : Expr} (h : match a with | .Set .. => false | _ => true) (env : Env) (x : Value) : foldedSetIterable a env x = pure x := by
  cases a <;> first | rfl | cases h
theorem chE_nf {e : Ex} {a : Expr} (h : chE G c e a = true) (env : Env) (x : Value) : foldedSetIterable a env x = pure x := by
  cases a <;> first | rfl | skip
  cases e <;> first | (simp [chE] at h; done) | skip
  all_goals (unfold chE at h; cases h)
theorem chI_nf {i : Itr} {t a : Expr} (h : chI G c i t a = true) (env : Env) (x : Value) : foldedSetIterable a env x = pure x := by
  cases i with
  | seq e => unfold chI at h; exact chE_nf h env x
  | _ =>
    cases a <;> first | rfl | skip
    all_goals (unfold chI at h; first | cases h | (split at h <;> first | contradiction | cases h))
theorem PTs.imp {X : Cx} {e : List Expr} {t t' : TT} (h : PTs X e t) (i : ∀ σ H Q, t' σ H Q → t σ H Q) : PTs X e t' := ⟨fun pins s σ H Q I hq => h.run pins s σ H Q I (i _ _ _ hq)⟩
theorem r_cno : PTs X [] (tT X.w X.K fun sl S => evC E sl S .no) := by
  refine PTs.imp pts_nil fun σ H Q hh => ?_
  obtain ⟨F0, M0, H0, F, M, S, sl, b, S', st, e, kk⟩ := hh
  dsimp only at e
  unfold evC at e
  cases e
  exact kk F M H (Xt.refl st.sub) st
theorem r_cyes {a : Ex} {x : Expr} (ha : PT X x (tT X.w X.K fun sl S => bool? (evE E sl S a))) : PTs X [x] (tT X.w X.K fun sl S => evC E sl S (.yes a)) := by
  refine PTs.imp (pts_one ha) fun σ H Q hh => ?_
  obtain ⟨F0, M0, H0, F, M, S, sl, b, S', st, e, kk⟩ := hh
  dsimp only at e
  unfold evC at e
  exact ⟨F0, M0, H0, F, M, S, sl, b, S', st, e, kk⟩
theorem lcGo_len {f : D → Store → Option (Option D × Store)} : ∀ {ds : List D} {S : Store} {ys : List D} {S' : Store}, lcGo f ds S = some (ys, S') → ys.length ≤ ds.length
  | [], _, _, _, e => by cases e; exact Nat.le_refl _
  | d :: ds, S, ys, S', e => by
    unfold lcGo at e
    split at e
    · split at e
      · cases e
        have := lcGo_len (by assumption)
        rw [List.length_cons, List.length_cons]; omega
      · cases e
    · have := lcGo_len e
      rw [List.length_cons]; omega
    · cases e
/-- what a turn of a comprehension does -/
def lcStep (E : Ev) (sl : Slots) (elt : Ex) (tg : Tg) (cd : Exo) (own : List Nat) (d : D) (S : Store) : Option (Option D × Store) := match asgT tg (.val d) (wipeS sl own) with
  | some sl1 => match evC E sl1 S cd with
    | some (true, S1) => (dat? (fz? (evE E sl1 S1 elt))).map fun p => (some p.1, p.2)
    | some (false, S1) => some (none, S1)
    | none => none
  | none => none
theorem xt_cons {F H : Hp} {M : List Addr} {K : Frg} {F1 : Hp} {H' : Hp} {v : V} {ds : List D} {i : Nat} (s : Sub F1 F) (sH : Sub F H) (y : YD K F1 ds i H v H') : ∃ d F', ds[i]? = some d ∧ Xt F M H F' M H' ∧ Rp K F' v d ∧ (H' = H ∧ F' = F ∨ ∃ T o, H T = none ∧ H' = upd H T o ∧ F' = upd F T o) := by
  obtain ⟨d, e, ⟨rfl, r⟩ | ⟨T, o, x, z, dx, dy, rfl, hT, ho, rfl, r1, r2, rfl⟩⟩ := y
  · exact ⟨d, F, e, Xt.refl sH, Rp.sub s r, .inl ⟨rfl, rfl⟩⟩
  · exact ⟨_, upd F T (.frz o (.tup [x, z])), e, Xt.newF sH hT, tupF (sH.none hT) ho (.cons (Rp.sub s r1) (.cons (Rp.sub s r2) .nil)) (by show 2 ≤ sizeLine; rw [sizeLine_eq]; decide), .inr ⟨T, _, hT, rfl, rfl⟩⟩
theorem wipe_none {σ : L2.St} {i : Nat} : ∀ {vs : List Nat}, i ∈ vs → i < σ.length → (wipe σ vs)[i]? = some none
  | [], h, _ => absurd h (by simp)
  | j :: vs, h, hl => by
    unfold wipe
    by_cases hj : j = i
    · subst hj
      exact List.getElem?_set_self (by rw [wipe_length]; exact hl)
    · rw [List.getElem?_set_ne hj]
      rcases List.mem_cons.mp h with h | h
      · exact absurd h.symm hj
      · exact wipe_none h hl
theorem wipe_wipe (σ : L2.St) (vs : List Nat) : wipe (wipe σ vs) vs = wipe σ vs := by
  refine List.ext_getElem? fun i => ?_
  by_cases h : i ∈ vs
  · by_cases hl : i < σ.length
    · rw [wipe_none h (by rw [wipe_length]; exact hl), wipe_none h hl]
    · rw [List.getElem?_eq_none (by rw [wipe_length, wipe_length]; omega), List.getElem?_eq_none (by rw [wipe_length]; omega)]
  · rw [wipe_out h]
/-- the state of a comprehension's list -/
structure LcSt (w : World) (K : Frg) (F1 : Hp) (M1 : List Addr) (H1 : Hp) (dl : Addr) (f : D → Store → Option (Option D × Store)) (ds zs : List D) (S2 : Store) (i : Nat) (H : Hp) : Prop where
  ex : ∃ (F : Hp) (M : List Addr) (S : Store) (vs : List V) (ys rs : List D), Xt F1 M1 H1 F M H ∧ Cls K F M H S ∧ F dl = none ∧ dl ∉ M ∧ H dl = some (.lst vs) ∧ Rps K F vs ys ∧ vs.length ≤ i ∧ lcGo f (ds.drop i) S = some (rs, S2) ∧ ys ++ rs = zs
theorem r_lc (hc : X.calm = true) (hN : X.N.Nodup) {elt : Ex} {tg : Tg} {it : Itr} {cd : Exo} {own : List Nat} {e t i : Expr} {ifs : List Expr} {scope : Scope} {pos : Pos} {on : List (Str × Nat)} (hon : on.map (·.2) = own)
    (hi : PI X t i (tI X.w X.K fun sl S => evI E sl S it)) (ok : BlkOk X.N X.env.scope scope on)
    (hg : ∀ (s : Shared) (H : Hp) (C : Addr) (cl : List (Str × Addr)) (fp : List Addr), PG (X.blk s H scope (compEnvC scope cl C X.env) fp) t (tG X.w X.K tg))
    (ht : ∀ (s : Shared) (H : Hp) (C : Addr) (cl : List (Str × Addr)) (fp : List Addr), PTs (X.blk s H scope (compEnvC scope cl C X.env) fp) ifs (tT X.w X.K fun sl S => evC E sl S cd))
    (he : ∀ (s : Shared) (H : Hp) (C : Addr) (cl : List (Str × Addr)) (fp : List Addr), PE (X.blk s H scope (compEnvC scope cl C X.env) fp) e (tM X.w X.K fun sl S => evE E sl S elt))
    (hs : ∀ x, foldedSetIterable i X.env x = pure x) (hown : ∀ j ∈ tg.ix, j ∈ own) :
    ∃ tl, PE X (.ListComp e [⟨t, i, ifs, 0⟩] scope pos) tl ∧ (∀ (y : Str) (py : Pos) (j : Nat) (spos : Pos), X.N[j]? = some y → X.env.scope.names.lookup y = some .local → swapsWith (.ListComp e [⟨t, i, ifs, 0⟩] scope pos) (some (.Name y py)) spos.line X.env = pure true →
      PS X (.Assign [.Name y py] (.ListComp e [⟨t, i, ifs, 0⟩] scope pos) spos) (tAsg tl (gName j))) ∧ ∀ σ H Q, tM X.w X.K (fun sl S => evE E sl S (.lc elt tg it cd own)) σ H Q → tl σ H Q := by
  refine ⟨_, pe_lc hc hN hi ok hg ht he hs, fun y py j spos h1 h2 h3 => ps_setLc hc hN h1 h2 h3 hi ok hg ht he hs, fun σ H Q hh => ?_⟩
  rw [hon]
  obtain ⟨F0, M0, H0, F, M, S, sl, r, S', st, e, kk⟩ := hh
  dsimp only at e
  unfold evE at e
  split at e
  · rename_i ds S1 e1
    split at e
    · rename_i zs S2 e2
      cases e
      have e2 : lcGo (lcStep E sl elt tg cd own) ds S1 = some (zs, S') := e2
      refine tI_then st e1 fun F1 M1 H1 J x1 st1 wk D hD => ?_
      refine lc_it wk.1 (LcSt X.w X.K F1 M1 H1 D (lcStep E sl elt tg cd own) ds zs S') ?_ ?_ ?_ ?_
      · exact ⟨F1, M1, S1, [], [], zs, Xt.new st1.sub hD, st1.cls.new st1.sub hD, st1.sub.none hD, fun z => (st1.cls.mem_some z).2 hD, upd_same, .nil, Nat.le_refl _, e2, rfl⟩
      · rintro n H' _ ⟨F', M', S', vs, ys, rs, xx, _⟩
        exact xx.frz.trans xx.sub
      · rintro n v H' H'' hn ⟨F', M', S3, vs, ys, rs, xx, cl, fD, mD, hL, rr, hlen, go, fin⟩ yd
        obtain ⟨d, F'', ed, xa, rd, hcase⟩ := xt_cons (M := M') xx.frz xx.sub yd
        have cl2 : Cls X.K F'' M' H'' S3 := by
          rcases hcase with ⟨rfl, rfl⟩ | ⟨T, o, hT, rfl, rfl⟩
          · exact cl
          · exact cl.newF xx.sub hT
        have xx2 := xx.trans xa
        have st2 : Stt X.w X.K F0 M0 H0 F'' M' S3 (wipeS sl own) (wipe σ own) H'' := (st1.xt xx2 cl2).wipe own
        have hHD : H' D ≠ none := by rw [hL]; exact fun z => nomatch z
        have hL2 : H'' D = some (.lst vs) := xa.keep _ _ mD hL
        have fD2 : F'' D = none := xa.own _ fD hHD
        have drop : ds.drop n = d :: ds.drop (n + 1) := by
          rw [List.drop_eq_getElem_cons hn]
          have : ds[n] = d := by
            have := List.getElem?_eq_getElem hn
            rw [ed] at this
            exact (Option.some.inj this).symm
          rw [this]
        rw [drop] at go
        unfold lcGo at go
        -- one turn
        cases ea : asgT tg (.val d) (wipeS sl own) with
        | none => simp [lcStep, ea] at go
        | some sl1 =>
          refine ⟨F0, M0, H0, F'', M', S3, wipeS sl own, .val d, sl1, st2, rfl, rsv_d rd, ea, fun σ2 hw st3 => ⟨(hw own hown).trans (wipe_wipe σ own), ?_⟩⟩
          cases ec : evC E sl1 S3 cd with
          | none => simp [lcStep, ea, ec] at go
          | some p =>
            obtain ⟨b, S4⟩ := p
            refine ⟨F0, M0, H0, F'', M', S3, sl1, b, S4, st3, ec, fun F4 M4 H4 x4 st4 => ?_⟩
            have hL4 : H4 D = some (.lst vs) := x4.keep _ _ mD hL2
            have fD4 : F4 D = none := x4.own _ fD2 (by rw [hL2]; exact fun z => nomatch z)
            have mD4 : D ∉ M4 := fun z => mD (x4.mem z (by rw [hL2]; exact fun z => nomatch z))
            cases b with
            | false =>
              show (if (false = true) then _ else _)
              rw [if_neg Bool.false_ne_true]
              have go' : lcGo (lcStep E sl elt tg cd own) (ds.drop (n + 1)) S4 = some (rs, S') := by
                have : lcStep E sl elt tg cd own d S3 = some (none, S4) := by simp [lcStep, ea, ec]
                simpa [this] using go
              exact ⟨F4, M4, S4, vs, ys, rs, xx2.trans x4, st4.cls, fD4, mD4, hL4, Rps.sub (xa.frz.trans x4.frz) rr, by omega, go', fin⟩
            | true =>
              show (if (true = true) then _ else _)
              rw [if_pos rfl]
              cases ee : dat? (fz? (evE E sl1 S4 elt)) with
              | none => simp [lcStep, ea, ec, ee] at go
              | some q =>
                obtain ⟨y, S5⟩ := q
                have hst : lcStep E sl elt tg cd own d S3 = some (some y, S5) := by simp [lcStep, ea, ec, ee]
                simp only [hst] at go
                split at go
                · rename_i ys' S6 go'
                  cases go
                  refine tX_of (tX_then st4 (dat_inv ee) fun F5 M5 H5 v5 x5 st5 f5 q5 => ?_)
                  have hne4 : H4 D ≠ none := by rw [hL4]; exact fun z => nomatch z
                  have hL5 : H5 D = some (.lst vs) := x5.keep _ _ mD4 hL4
                  have fD5 : F5 D = none := x5.own _ fD4 hne4
                  have mD5 : D ∉ M5 := fun z => mD4 (x5.mem z hne4)
                  have x15 := (xx2.trans x4).trans x5
                  refine ⟨vs, hL5, by have := wk.2; omega, F5, M5, S5, vs ++ [v5], ys ++ [y], ys', ?_, ?_, fD5, mD5, upd_same, ?_, by rw [List.length_append, List.length_singleton]; omega, go', by rw [← fin, List.append_assoc]; rfl⟩
                  · refine ⟨fun a o hm ea => ?_, fun a ea => ?_, x15.frz, fun a o ea => ?_, x15.own, x15.cel⟩
                    · rw [upd_ne (ne_of_none ea hD)]; exact x15.keep a o hm ea
                    · by_cases h : a = D
                      · subst h; rw [upd_same]; exact fun z => nomatch z
                      · rw [upd_ne h]; exact x15.there a ea
                    · rw [upd_ne (fun z => by subst z; rw [fD5] at ea; cases ea)]; exact x15.sub a o ea
                  · exact st5.cls.mono (Sub.refl _) (fun a ha => (st5.cls.mem_some ha).1) fun a ha => upd_ne fun (z : a = D) => mD5 (by rw [← z]; exact ha)
                  · exact (Rps.sub ((xa.frz.trans x4.frz).trans x5.frz) rr).append (.cons (dat_rp q5) .nil)
                · cases go
      · rintro H' ⟨F', M', S3, vs, ys, rs, xx, cl, fD, mD, hL, rr, hlen, go, fin⟩
        rw [List.drop_eq_nil_of_le (Nat.le_refl _)] at go
        cases go
        rw [List.append_nil] at fin
        subst fin
        refine kk F' M' H' _ (x1.trans xx) (st1.xt xx cl) ⟨D, rfl, ?_, fD, mD, vs, hL, ?_, rr⟩ ((newIn (o := .lst ys) hD).xt x1)
        · exact st1.base.none0 hD
        · have := wk.2; omega
    · cases e
  · cases e
end
end DL

namespace DL
open PySem PySem.Spec PyProof.Rows L2
def tRevD (K : Frg) (te : TE) : TE := fun σ H Q => te σ H fun x H1 => (∃ a xs, x = .ref a ∧ SqL K H1 a xs ∧ ∀ p, H1 p = none → Q (.ref p) (upd H1 p (.lst xs.reverse))) ∨ ∃ a xs, x = .ref a ∧ SqT K H1 a xs ∧ NwT H1 xs.reverse Q
theorem pe_revD {X : Cx} {e : Expr} {te : TE} {k : Nat} {p1 p2 p3 pos : Pos} (he : PE X e te) : PE X (.Subscript e (.Slice none none (some (.UnaryOp .USub (.Constant (.int 1) k p1) p2)) p3) pos) (tRevD X.K te) := by
  refine ⟨fun pins s σ H Q I h => Subscript_ (thn (he.run pins s σ H _ I h) fun v s1 ⟨x, H1, I1, r1, q1⟩ => ?_)⟩
  have step : PO X (some (.UnaryOp .USub (.Constant (.int 1) k p1) p2)) (tPart (tUn (rU fun i => .int (-i)) (tC (.int 1)))) := po_some (pe_un un_neg pe_int)
  refine wpAny_Slice (thn (po_none.run pins s1 σ H1 (fun o H2 => o = none ∧ H2 = H1) I1 ⟨rfl, rfl⟩) fun vl s2 ⟨l, H2, I2, pl, el, e2⟩ => thn (po_none.run pins s2 σ H2 (fun o H3 => o = none ∧ H3 = H2) I2 ⟨rfl, rfl⟩) fun vu s3 ⟨u, H3, I3, pu, eu, e3⟩ => thn (step.run pins s3 σ H3 (fun o H4 => o = some (-1) ∧ H4 = H3) I3 ⟨1, rfl, -1, rfl, rfl, rfl⟩) fun vs s4 ⟨o, H4, I4, ps, eo, e4⟩ => ?_)
  subst el e2 eu e3 eo e4
  have I5 : L2.Inv X pins σ H4 { s4 with heap := s4.heap.push { cls := .type "slice", data := .fields #[vl, vu, vs] } } := I4.kept (t' := s4.toks) fun b ob q => Heap.get?_push_of_some _ q
  rcases q1 with ⟨a, xs, rfl, hx, q⟩ | ⟨a, xs, rfl, hx, q⟩
  · cases r1
    obtain ⟨its, r, ht, hz⟩ := I5.list hx
    have hlen := r.length
    show wpAny (model X.prog X.w) X.A (subscriptTail e (.Slice none none (some (.UnaryOp .USub (.Constant (.int 1) k p1) p2)) p3) (.ref a) (.ref s4.heap.objs.size)) (EP X pins σ Q) X.xe { s4 with heap := s4.heap.push { cls := .type "slice", data := .fields #[vl, vu, vs] } }
    refine tail_any (ops := [.ref a, .ref s4.heap.objs.size]) ht.isList.typeIs (PySem.slot_list_getitem.lookup) (wpAny_getItem_list_slice ht.isList (Heap.IsSliceOf.new _ vl vu vs) pl pu ps (by decide) ?_ (by rw [List.size_toArray]; omega)) (by with_unfolding_all rfl)
    rw [PySem.W.krv_pick]
    exact ⟨.ref _, _, I5.laid (t' := s4.toks) (o := .lst xs.reverse) (fun b ob q => Heap.get?_push_of_some _ q) (Nat.le_refl _) ⟨by rw [List.length_reverse]; exact hz, _, 0, r.reverse, Heap.get?_push_size _ rfl⟩, rfl, q _ (I5.hok.fresh (Nat.le_refl _))⟩
  · cases r1
    obtain ⟨its, r, ht, hz⟩ := I5.tuple hx
    have hlen := r.length
    cases pl
    cases pu
    show wpAny (model X.prog X.w) X.A (subscriptTail e (.Slice none none (some (.UnaryOp .USub (.Constant (.int 1) k p1) p2)) p3) (.ref a) (.ref s4.heap.objs.size)) (EP X pins σ Q) X.xe { s4 with heap := s4.heap.push { cls := .type "slice", data := .fields #[.none, .none, vs] } }
    refine tail_any (ops := [.ref a, .ref s4.heap.objs.size]) ht.typeIs slot_tuple_getitem.lookup (tuple_rev ht (Heap.IsSliceOf.new _ .none .none vs) ps ?_ (by rw [List.size_toArray]; omega)) (by with_unfolding_all rfl)
    exact tz_new (t' := s4.toks) I5 (by rw [List.length_reverse]; exact hz) r.reverse q
theorem Rps.rev {K : Frg} {F : Hp} {xs : List V} {ds : List D} (r : Rps K F xs ds) : Rps K F xs.reverse ds.reverse := r.reverse
section
variable {G : Pg} {E : Ev} {k : Nat}
theorem r_rev {X : Cx} {a : Ex} {x : Expr} {j : Nat} {p1 p2 p3 pos : Pos} (ha : PE X x (tM X.w X.K fun sl S => evE E sl S a)) :
    PE X (.Subscript x (.Slice none none (some (.UnaryOp .USub (.Constant (.int 1) j p1) p2)) p3) pos) (tM X.w X.K fun sl S => evE E sl S (.rev a)) := by
  refine PE.imp (pe_revD ha) fun σ H Q hh => ?_
  obtain ⟨F0, M0, H0, F, M, S, sl, r, S', st, e, kk⟩ := hh
  dsimp only at e
  unfold evE at e
  split at e
  · rename_i v S1 e1
    obtain ⟨z, e2, e3⟩ := Option.map_eq_some_iff.mp e
    cases e3
    refine tM_then st e1 fun F1 M1 H1 v1 x1 st1 r1 n1 => ?_
    unfold revS at e2
    split at e2
    · cases e2
      obtain ⟨p, xs, rfl, hp, zz, rr⟩ := r1.dat.tup_inv
      refine .inr ⟨p, xs, rfl, SqT.sub st1.sub hp, fun t o ht ho => ?_⟩
      exact kk _ _ _ _ (x1.trans (Xt.newF st1.sub ht)) (st1.newF ht) (RRV.ofd (tupF (st1.sub.none ht) ho rr.reverse (by rw [List.length_reverse]; exact zz))) trivial
    · split at e2
      · rename_i e4
        cases e2
        obtain ⟨p, xs, rfl, hp, zz, rr⟩ := toL_rep st1.sub r1 e4
        refine .inl ⟨p, xs, rfl, SqL.of hp, fun t ht => ?_⟩
        exact kk F1 _ _ _ (x1.trans (Xt.new st1.sub ht)) (st1.new ht) (st1.newL ht rr.reverse (by rw [List.length_reverse]; exact zz)) ((newIn ht).xt x1)
      · cases e2
  · cases e
end
end DL

/-! The data layer: dict displays, get, sorted(d.items()). -/
namespace DL
open PySem PySem.Spec PyProof.Rows L2
section
variable {w : World} {K : Frg} {F0 M0 H0 : Type}
theorem exo_ok {P : Program} {w : World} {H : Hp} {h : Heap} {a : Addr} {o : Obj} (g : h.get? a = some o) : ObjOk P w H h a (exo a o) := ⟨g, ⟨_, g⟩, fun h1 h2 q k => k _ q⟩
end
section
variable {w : World} {K : Frg} {F0 H0 F H F' H' : Hp} {M0 M M' : List Addr} {S S' : Store} {sl : Slots} {σ : L2.St}
/-- an object that was new ahead of some steps is changed behind them -/
theorem Stt.over (st : Stt w K F0 M0 H0 F M S sl σ H) {p : Addr} {o0 : HO} (hn : H p = none) (x : Xt F M (upd H p o0) F' M' H') (st' : Stt w K F0 M0 H0 F' M' S' sl σ H') (o : HO) :
    Xt F M H F' M' (upd H' p o) ∧ Stt w K F0 M0 H0 F' M' S' sl σ (upd H' p o) ∧ F' p = none ∧ p ∉ M' := by
  have fp : F p = none := st.sub.none hn
  have x0 : Xt F M H F' M' H' := (Xt.new st.sub hn).trans x
  have h1 : (upd H p o0) p ≠ none := by rw [upd_same]; exact fun z => nomatch z
  have fp' : F' p = none := x.own p fp h1
  have nm : p ∉ M' := fun h => (st.cls.mem_some (x.mem h h1)).2 hn
  have xx : Xt F M H F' M' (upd H' p o) :=
    ⟨fun a u ha e => by rw [upd_ne (ne_of_none e hn)]; exact x0.keep a u ha e, fun a e => by
        by_cases ha : a = p
        · subst ha; rw [upd_same]; exact fun z => nomatch z
        · rw [upd_ne ha]; exact x0.there a e,
      x0.frz, fun a u e => by rw [upd_ne (ne_of_none e fp')]; exact x0.sub a u e, x0.own, x0.cel⟩
  refine ⟨xx, st.xt xx (st'.cls.mono (Sub.refl _) (fun a ha => (st'.cls.mem_some ha).1) fun a ha => upd_ne fun e => nm (e ▸ ha)), fp', nm⟩
theorem Xt.new_none (x : Xt F M H F' M' H') {p : Addr} (h : H' p = none) : H p = none := by
  cases q : H p with
  | none => rfl
  | some u => exact absurd h (x.there p (by rw [q]; exact fun z => nomatch z))
/-- a new dict, filled behind some steps -/
theorem Stt.filled (st : Stt w K F0 M0 H0 F M S sl σ H) {p : Addr} {o : Obj} {kvs : List (D × D)} (hn : H p = none) (fp : F' p = none) (nm : p ∉ M') (ok : DcOk w K F' p o kvs) : RRV w K H0 F' M' (upd H' p (exo p o)) (.ref p) (.new (.dct kvs)) :=
  ⟨p, rfl, st.base.none0 hn, fp, nm, dctAt_iff.mpr ⟨o, upd_same, ok⟩⟩
theorem emp_dct {P : Program} {h : Heap} {a : Addr} {o : Obj} (g : h.get? a = some o) (ho : o = { cls := .type "dict", data := .dict #[] }) : h.DictOf (PySem.strKind P w) a [] ∧ h.DictOfH (nestedKind P w) a [] := by
  subst ho
  exact ⟨⟨_, #[], 0, g, ⟨rfl, rfl, rfl⟩, rfl, fun _ h => by simp at h, .nil, List.nodup_nil⟩, ⟨_, #[], 0, g, ⟨rfl, rfl, rfl⟩, rfl, rfl, (fun _ h => nomatch h), List.nodup_nil⟩⟩
end
section
variable {X : Cx} {G : Pg} {E : Ev} {k : Nat}
theorem r_dnew {pos : Pos} : PE X (.Dict [] [] pos) (tM X.w X.K fun sl S => evE E sl S .dnew) := by
  refine ⟨fun pins s σ H Q I hh => wpAny_Dict_empty ?_⟩
  obtain ⟨F0, M0, H0, F, M, S, sl, r, S', st, e, kk⟩ := hh
  dsimp only at e
  unfold evE at e
  cases e
  have hn : H s.heap.objs.size = none := I.hok.fresh (Nat.le_refl _)
  have g : (s.heap.push { cls := .type "dict", data := .dict #[] }).get? s.heap.objs.size = some { cls := .type "dict", data := .dict #[] } := Heap.get?_push_size _ rfl
  have sys : (s.heap.objs.size == sysModules) = false := beq_eq_false_iff_ne.mpr (Nat.ne_of_gt I.big)
  have ok : DcOk X.w X.K F s.heap.objs.size { cls := .type "dict", data := .dict #[] } [] := ⟨⟨rfl, rfl, rfl⟩, sys, Nat.zero_le _, List.nodup_nil, .inl (fun _ h => nomatch h), #[], 0, rfl, .nil⟩
  exact ⟨.ref _, _, I.laid (t' := s.toks) (fun b o e => Heap.get?_push_of_some _ e) (Nat.le_refl _) (exo_ok g), rfl, kk F M _ _ (Xt.new st.sub hn) (st.new hn) (st.newD hn ok) (newIn hn)⟩
theorem r_dset (T : Ctx X G E k) {a b : Ex} {x y : Expr} {pos : Pos} (ha : PE X x (tM X.w X.K fun sl S => evE E sl S a)) (hb : PE X y (tM X.w X.K fun sl S => evE E sl S b)) : PE X (.Dict [some x] [y] pos) (tM X.w X.K fun sl S => evE E sl S (.dset a b)) := by
  refine ⟨fun pins s σ H Q I hh => ?_⟩
  obtain ⟨F0, M0, H0, F, M, S, sl, r, S', st, e, kk⟩ := hh
  dsimp only at e
  unfold evE at e
  split at e
  · rename_i dk S1 e1
    split at e
    · rename_i dv S2 e2
      split at e
      · rename_i hk
        cases e
        have hn : H s.heap.objs.size = none := I.hok.fresh (Nat.le_refl _)
        have g : (s.heap.push { cls := .type "dict", data := .dict #[] }).get? s.heap.objs.size = some { cls := .type "dict", data := .dict #[] } := Heap.get?_push_size _ rfl
        have sys : (s.heap.objs.size == sysModules) = false := beq_eq_false_iff_ne.mpr (Nat.ne_of_gt I.big)
        have I1 : L2.Inv X pins σ (upd H s.heap.objs.size (exo s.heap.objs.size { cls := .type "dict", data := .dict #[] })) { s with heap := s.heap.push { cls := .type "dict", data := .dict #[] } } :=
          I.laid (t' := s.toks) (fun b o e => Heap.get?_push_of_some _ e) (Nat.le_refl _) (exo_ok g)
        have st1 := st.new (o := exo s.heap.objs.size { cls := .type "dict", data := .dict #[] }) hn
        have np : s.heap.objs.size ∉ M := fun h => (st.cls.mem_some h).2 hn
        have hu := T.units
        /- the pair -/
        have pair : ∀ R : List (Value × Value) → Shared → Prop,
            (∀ F2 M2 H2 s2 kv vv u1 u2, Xt F M (upd H s.heap.objs.size (exo s.heap.objs.size { cls := .type "dict", data := .dict #[] })) F2 M2 H2 → Stt X.w X.K F0 M0 H0 F2 M2 S' sl σ H2 → L2.Inv X pins σ H2 s2 → Rp X.K F2 kv dk → Rp X.K F2 vv dv → RelV kv u1 → RelV vv u2 →
              s2.heap.get? s.heap.objs.size = some { cls := .type "dict", data := .dict #[] } → R [(u1, u2)] s2) →
            wpAny (model X.prog X.w) X.A (evalPairs (pairTrees [some x] [y] X.env pos)) R X.xe { s with heap := s.heap.push { cls := .type "dict", data := .dict #[] } } := by
          intro R hR
          refine pairTrees_cons_walk (thn (ha.run pins _ σ _ (fun v H1 => ∃ F1 M1, Xt F M (upd H s.heap.objs.size (exo s.heap.objs.size { cls := .type "dict", data := .dict #[] })) F1 M1 H1 ∧ Stt X.w X.K F0 M0 H0 F1 M1 S1 sl σ H1 ∧ Rp X.K F1 v dk) I1
            (tX_of (tX_then st1 (dat_inv e1) fun F1 M1 H1 v1 x1 st1 f1 q1 => ⟨F1, M1, x1, st1, dat_rp q1⟩))) fun u1 s1 ⟨kv, H1, J1, rk, F1, M1, x1, st1, q1⟩ => ?_)
          refine thn (hb.run pins _ σ _ (fun v H2 => ∃ F2 M2, Xt F1 M1 H1 F2 M2 H2 ∧ Stt X.w X.K F0 M0 H0 F2 M2 S' sl σ H2 ∧ Rp X.K F2 v dv) J1 (tX_of (tX_then st1 (dat_inv e2) fun F2 M2 H2 v2 x2 st2 f2 q2 => ⟨F2, M2, x2, st2, dat_rp q2⟩))) fun u2 s2 ⟨vv, H2, J2, rv, F2, M2, x2, st2, q2⟩ => ?_
          refine pairTrees_nil_walk (hR F2 M2 H2 s2 kv vv u1 u2 (x1.trans x2) st2 J2 (Rp.sub x2.frz q1) q2 rk rv ?_)
          exact got J2 ((x1.trans x2).keep _ _ np upd_same)
        have fin : ∀ F2 M2 H2 s2 (h' : Heap) (t : Nat) (o' : Obj), Xt F M (upd H s.heap.objs.size (exo s.heap.objs.size { cls := .type "dict", data := .dict #[] })) F2 M2 H2 → Stt X.w X.K F0 M0 H0 F2 M2 S' sl σ H2 → L2.Inv X pins σ H2 s2 → Heap.SameBut s.heap.objs.size s2.heap h' → h'.get? s.heap.objs.size = some o' → DcOk X.w X.K F2 s.heap.objs.size o' [(dk, dv)] →
            EP X pins σ Q (.ref s.heap.objs.size) { s2 with heap := h', toks := t } := by
          intro F2 M2 H2 s2 h' t o' x2 st2 J2 hs ho ok
          obtain ⟨xx, stt, fp, nm⟩ := st.over hn x2 st2 (exo s.heap.objs.size o')
          have hp : H2 s.heap.objs.size = some (exo s.heap.objs.size { cls := .type "dict", data := .dict #[] }) := x2.keep _ _ np upd_same
          exact ⟨.ref _, _, L2.Inv.write (x := s.heap.objs.size) (e := s.heap.objs.size) J2 (by rw [hp]; trivial) (.inl rfl) (fun b q hb z => (hs.2 b hb).trans z) ⟨_, ho⟩ (exo_ok ho), rfl, kk F2 M2 _ _ xx stt (st.filled hn fp nm ok) (newIn hn)⟩
        obtain ⟨nk, hnk, hd⟩ := keyFits_nk hk
        have hz1 : ([(dk, dv)] : List (D × D)).length ≤ sizeLine := by rw [sizeLine_eq]; exact Nat.le_of_ble_eq_true rfl
        rcases keyFits_kind (kvs := []) (.inl (fun _ h => nomatch h)) hk with ⟨z, rfl, _⟩ | ⟨ds, rfl, _⟩
        · refine wpAny_Dict_walk (knd := PySem.strKind X.prog X.w) rfl rfl (by simp) (by simp) (pair _ fun F2 M2 H2 s2 kv vv u1 u2 x2 st2 J2 q1 q2 r1 r2 g2 => ?_)
          obtain ⟨rfl, ok, zz⟩ := q1.str_inv
          obtain ⟨t, rfl⟩ := r1
          refine ⟨[(z, u2)], ⟨by show Value.isStrOf z (.str z t) = true; simp [Value.isStrOf], rfl, trivial⟩, (emp_dct g2 rfl).1, fun h' dd hs => ?_⟩
          have pp : Paired (PrS X.K F2) (merged [] [(z, u2)]) (dMerge [] [(.str z, dv)]) := merge_s (.cons ⟨⟨rfl, ok, zz⟩, vv, r2, q2⟩ .nil) .nil List.nodup_nil
          obtain ⟨o', ho, ok'⟩ := DcOk.of_strs dd pp sys hz1
          exact fin F2 M2 H2 s2 h' _ o' x2 st2 J2 hs ho ok'
        · rw [arm_eval_Dict, zip_pairTrees [some x] [y] X.env pos rfl rfl, dictDisplay_pairs (pairTrees [some x] [y] X.env pos) (by simp [pairTrees]) (by simp [pairTrees])]
          refine wpAny_bind (wpAny_standAt (wpAny_bind (wpAny_subDictH (knd := nestedKind X.prog X.w) (by show X.A.units + 8 < cLine; omega) (by simp [pairTrees]) (pair _ fun F2 M2 H2 s2 kv vv u1 u2 x2 st2 J2 q1 q2 r1 r2 g2 => ?_))))
          have q1' := q1
          obtain ⟨b, ys, rfl, _, _, _⟩ := q1.tup_inv
          cases r1
          refine ⟨[(nk, b, u2)], ⟨rfl, rfl, ⟨nis_of J2 st2.sub _ _ _ _ q1' rfl hnk, hd⟩, trivial⟩, (emp_dct g2 rfl).2, fun h' tk dd hs => wpAny_pure ?_⟩
          have pp : Paired (PrT X.K F2) (storedAllH [] [(nk, b, u2)]) [(.tuple ds, dv)] := .cons ⟨hnk, hd, q1', ⟨ds, rfl⟩, vv, r2, q2⟩ .nil
          obtain ⟨o', ho, ok'⟩ := DcOk.of_tups dd pp sys hz1
          exact fin F2 M2 H2 s2 h' _ o' x2 st2 J2 hs ho ok'
      · cases e
    · cases e
  · cases e
end
end DL

/-! The data layer: get, sorted(d.items()), min. -/
namespace DL
open PySem PySem.Spec PyProof.Rows L2
section
variable {X : Cx} {pins : List (Addr × Obj)} {s : Shared} {τ : L2.St} {F H : Hp} {kvs : List (D × D)} {a : Addr} {d e : D} {x y : V} {u r : Value}
/-- d.get(k, e) -/
theorem get_dct (hu : X.A.units + 64 < cLine) (I : L2.Inv X pins τ H s) (ry : RelV x u) (rz : RelV y r) (sb : Sub F H) (hy : Rp X.K F x d) (hz : Rp X.K F y e) (h : DctAt X.w X.K F H a kvs) (hk : keyFits kvs d = true) {Q : VK}
    (q : ∀ z, Rp X.K F z ((dLook kvs d).getD e) → Q z H) : wpAny (model X.prog X.w) X.A (call (.builtin "dict.get") [.ref a, u, r]) (EP X pins τ Q) X.xe s := by
  obtain ⟨sys, ⟨k, vs, hi, dd, pp, rfl, _, _⟩ | ⟨k, b, xs, rfl, _, hi, dd, pp, hn, _, _⟩⟩ := dct_at I ry sb hy h hk
  · refine call_meetsIn PySem.F.slot_dict_get dd.typeIs PySem.F.entry_dict_get (PySem.F.args_dict_get_3 _ _ _) (meets_dict_get_default (PySem.strKind X.prog X.w) a hi sys r) ⟨_, dd.mapOf, ?_⟩
    rcases look_s pp k with ⟨w', e', z, e1, e2, r1, r2⟩ | ⟨e1, e2⟩
    · rw [e1]
      rw [e2] at q
      exact ⟨z, H, I.tok _, r1, q z r2⟩
    · rw [e1]
      rw [e2] at q
      exact ⟨y, H, I.tok _, rz, q y hz⟩
  · refine call_meetsIn PySem.F.slot_dict_get dd.typeIs PySem.F.entry_dict_get (PySem.F.args_dict_get_3 _ _ _) (meetsH_dict_get_default (nestedKind X.prog X.w) a b sys r) ⟨by show X.A.units + 1 + 8 < cLine; omega, k, xs, hi, dd, ?_⟩
    rcases look_t pp hn with ⟨w', e', z, e1, e2, r1, r2⟩ | ⟨e1, e2⟩
    · rw [e1]
      rw [e2] at q
      exact ⟨z, H, I.tok _, r1, q z r2⟩
    · rw [e1]
      rw [e2] at q
      exact ⟨y, H, I.tok _, rz, q y hz⟩
theorem dct_nodict (I : L2.Inv X pins τ H s) (h : DctAt X.w X.K F H a kvs) : ∀ b, Value.ref a = .ref b → ∃ ob, s.heap.get? b = some ob ∧ ob.dict = none := fun b q => by
  cases q
  obtain ⟨o, h, ok⟩ := dctAt_iff.mp h
  exact ⟨o, got I h, ok.ex.2.1⟩
end
section
variable {X : Cx} {G : Pg} {E : Ev} {k : Nat}
theorem plainO_base {x : Expr} (h : plainO x = true) (nm : Str) (env : Env) : attributeBase x nm env (eval x env) = eval x env := by
  cases x <;> first | rfl | cases h
theorem r_get2 (T : Ctx X G E k) {o a b : Ex} {x y z : Expr} {apos pos : Pos} (ho : PE X x (tM X.w X.K fun sl S => evE E sl S o)) (ha : PE X y (tM X.w X.K fun sl S => evE E sl S a)) (hb : PE X z (tM X.w X.K fun sl S => evE E sl S b))
    (hp : plainO x = true) (h1 : notStar y = true) (h2 : notStar z = true) (hl : apos.endLine = pos.line) : PE X (.Call (.Attribute x "get" apos) [y, z] [] pos) (tM X.w X.K fun sl S => evE E sl S (.get2 o a b)) := by
  have hu := T.units
  refine ⟨fun pins s σ H Q I hh => ?_⟩
  obtain ⟨F0, M0, H0, F, M, S, sl, r, S', st, e, kk⟩ := hh
  dsimp only at e
  unfold evE at e
  split at e
  · rename_i ro S1 e1
    split at e
    · rename_i dk S2 e2
      split at e
      · rename_i dd S3 e3
        obtain ⟨r', e4, e5⟩ := Option.map_eq_some_iff.mp e
        cases e5
        unfold get2S at e4
        split at e4
        · rename_i kvs hk
          split at e4
          · rename_i hf
            cases e4
            have tr : backTo pos (starEach [y, z] X.env) = [(false, eval y X.env), (false, eval z X.env)] := by rw [star_cons h1, star_one h2]; rfl
            refine wpAny_Call_method (plainO_base hp _ _) (by rw [tr]; rfl) (by rw [hl]; exact beq_self_eq_true _) PySem.F.plainAttrs_dict PySem.F.slot_dict_get PySem.F.type_dict_get
              (thn (ho.run pins s σ H (fun v H1 => ∃ F1 M1, Xt F M H F1 M1 H1 ∧ Stt X.w X.K F0 M0 H0 F1 M1 S1 sl σ H1 ∧ RRV X.w X.K H0 F1 M1 H1 v ro) I (tM_then st e1 fun F1 M1 H1 v1 x1 st1 r1 n1 => ⟨F1, M1, x1, st1, r1⟩)) fun u s1 ⟨vo, H1, I1, ru, F1, M1, x1, st1, r1⟩ => ?_)
            obtain ⟨p, rfl, hd⟩ := toK_rep st1.sub r1 hk
            cases ru
            refine ⟨dct_ty I1 hd, dct_nodict I1 hd, ?_⟩
            rw [tr]
            refine Calls.callWith_builtin rfl (Calls.evalArgs_plain (Calls.spliced_cons (thn (ha.run pins s1 σ H1 (fun v H2 => ∃ F2 M2, Xt F1 M1 H1 F2 M2 H2 ∧ Stt X.w X.K F0 M0 H0 F2 M2 S2 sl σ H2 ∧ Rp X.K F2 v dk) I1
              (tX_of (tX_then st1 (dat_inv e2) fun F2 M2 H2 v2 x2 st2 f2 q2 => ⟨F2, M2, x2, st2, dat_rp q2⟩))) fun u1 s2 ⟨v1, H2, I2, ru1, F2, M2, x2, st2, q2⟩ =>
              Calls.spliced_cons (thn (hb.run pins s2 σ H2 (fun v H3 => ∃ F3 M3, Xt F2 M2 H2 F3 M3 H3 ∧ Stt X.w X.K F0 M0 H0 F3 M3 S' sl σ H3 ∧ Rp X.K F3 v dd) I2
              (tX_of (tX_then st2 (dat_inv e3) fun F3 M3 H3 v3 x3 st3 f3 q3 => ⟨F3, M3, x3, st3, dat_rp q3⟩))) fun u2 s3 ⟨v2, H3, I3, ru2, F3, M3, x3, st3, q3⟩ => Calls.spliced_nil ?_))))
            obtain ⟨p', e6, hd3⟩ := toK_rep st3.sub (r1.xt (x2.trans x3)) hk
            cases e6
            exact get_dct (by omega) I3 ru1 ru2 st3.sub (Rp.sub x3.frz q2) q3 hd3 hf fun z rz => kk F3 M3 H3 z ((x1.trans x2).trans x3) st3 (RRV.ofd rz) trivial
          · cases e4
        · cases e4
      · cases e
    · cases e
  · cases e
end
end DL

/-! The data layer: sorted(d.items()), min of a list. -/
namespace DL
open PySem PySem.Spec PyProof.Rows L2
section
variable {X : Cx} {pins : List (Addr × Obj)} {s : Shared} {τ : L2.St} {F0 H0 F H : Hp} {M0 M : List Addr} {S : Store} {sl : Slots} {σ : L2.St}
/-- a list that was just gathered is sorted -/
theorem sort_pushed {h' : Heap} {tk : Nat} {us : List Value} {ks : List V} {ds : List D} {A : Around} (hA : A.units + 70 < cLine) (I1 : L2.Inv X pins τ H { s with heap := h', toks := tk }) (st : Stt X.w X.K F0 M0 H0 F M S sl σ H) (hV : Vals ks us) (r1 : Rps X.K F ks ds) (hz : ds.length ≤ sizeLine) (ok : sortOk ds = true) {Q : VK}
    (k : ∀ F' H' v, Xt F M H F' M H' → Stt X.w X.K F0 M0 H0 F' M S sl σ H' → RRV X.w X.K H0 F' M H' v (.new (.lst (sortD ds))) → NewIn H v (.new (.lst (sortD ds))) → Q v H') :
    wpAny (model X.prog X.w) A (call (.builtin "list.sort") [.ref h'.objs.size]) (fun _ s' => EP X pins τ Q (.ref h'.objs.size) s') X.xe { s with heap := h'.push { cls := .type "list", data := .seq us.toArray }, toks := tk } := by
  obtain ⟨a1, a2, a3⟩ := sortOk_inv ok
  have hl : us.length = ds.length := by rw [← hV.length, r1.length]
  have hoL : (h'.push (seqObj "list" us.toArray 0)).get? h'.objs.size = some (seqObj "list" us.toArray 0) := Heap.get?_push_size _ rfl
  obtain ⟨ea, eb⟩ := each_of I1 st.sub hV r1
  have er' : PySem.W.EachIs (fun v b => ∃ as, Reads (PySem.W.sortingHeap (h'.push (seqObj "list" us.toArray 0)) h'.objs.size us) v (id b) as) us ds := eb.mono fun v b ⟨as, r⟩ => ⟨as, PyProof.Rows.Reads.keeps (fun b o q => PySem.W.sortingHeap_old (Nat.ne_of_lt (Heap.lt_size q)) (Heap.get?_push_of_some _ q)) r⟩
  have sv : PySem.W.EachIs (fun (u : Value) d => ∃ v, RelV v u ∧ Rp X.K F v d) _ _ := PySem.W.sortVals_data (enc := id) false ea er' (by rw [List.map_id]; exact a1)
  refine wpAny_call_entry PyProof.Rows.slot_list_sort ⟨_, hoL, rfl⟩ PyProof.Rows.entry_list_sort
    (PySem.W.list_sort_vals (κ := PySem.W.dataKind (PySem.W.sortingHeap (h'.push (seqObj "list" us.toArray 0)) h'.objs.size us) (ds.map id)) (s := { s with heap := h'.push (seqObj "list" us.toArray 0), toks := tk }) hoL
      (PySem.W.SortsAt.data (s := { s with heap := PySem.W.sortingHeap (h'.push (seqObj "list" us.toArray 0)) h'.objs.size us, toks := tk })
        (PySem.W.each_map (R := fun v d => ∃ as, Reads (PySem.W.sortingHeap (h'.push (seqObj "list" us.toArray 0)) h'.objs.size us) v d as) id er') (by rw [List.map_id]; exact a1) (by rw [List.map_id]; exact a2) (PySem.W.bound_map fun d hd => ?_)) (by rw [hl]; exact hz) ⟨_, rfl, ?_⟩)
    (PyProof.Rows.args_list_sort _)
  · have := a3 d hd
    show A.units + 1 + d.depth < cLine
    omega
  · obtain ⟨xs, h1, h2⟩ := of_each sv
    obtain ⟨e', he'⟩ := PyProof.Rows.sortedHeap_at (vs := us) (out := (PySem.W.sortVals (PySem.W.dataKind (PySem.W.sortingHeap (h'.push (seqObj "list" us.toArray 0)) h'.objs.size us) (ds.map id)) false us us).toArray) hoL
    have hn : H h'.objs.size = none := I1.hok.fresh (Nat.le_refl _)
    have hlen : xs.length ≤ sizeLine := by rw [h2.length, List.length_mergeSort]; exact hz
    refine ⟨.ref h'.objs.size, upd H h'.objs.size (.lst xs), I1.laid (t' := tk) (fun b u e => ?_) (Nat.le_refl _)
      (show ObjOk X.prog X.w _ _ _ (.lst xs) from ⟨hlen, _, e', h1, he'⟩), rfl, k F _ _ (Xt.new st.sub hn) (st.new hn) (st.newL hn h2 hlen) (newIn hn)⟩
    have hb : b < h'.objs.size := Heap.lt_size e
    rw [PyProof.Rows.sortedHeap_old (Nat.ne_of_lt hb) (by rw [size_push']; exact Nat.lt_succ_of_lt hb)]
    exact Heap.get?_push_of_some _ e
/-- new pairs, laid and untracked, are tracked and frozen -/
theorem take_pairs (I0 : L2.Inv X pins τ H s) {h' : Heap} {tk : Nat} {es : List DictEntry} {kvs : List (D × D)} (p : Paired (EnOk X.w X.K F) es kvs) : ∀ (as : List Addr) (F1 H1 : Hp), L2.Inv X pins τ H1 { s with heap := h', toks := tk } → Stt X.w X.K F0 M0 H0 F1 M S sl σ H1 → Sub F F1 → as.length = es.length → as.Pairwise (· < ·) →
    (∀ a ∈ as, s.heap.objs.size < a ∧ H1 a = none) → (∀ (j : Nat) (a : Addr), as[j]? = some a → ∃ e, es[j]? = some e ∧ h'.get? a = some { cls := .type "tuple", data := .seq #[e.key, e.val] }) →
    ∃ F2 H2, L2.Inv X pins τ H2 { s with heap := h', toks := tk } ∧ Stt X.w X.K F0 M0 H0 F2 M S sl σ H2 ∧ Xt F1 M H1 F2 M H2 ∧ Rps X.K F2 (as.map V.ref) (kvs.map pairT) := by
  induction p with
  | nil =>
    intro as F1 H1 I1 st sF hl _ _ _
    have : as = [] := List.length_eq_zero_iff.mp hl
    subst this
    exact ⟨F1, H1, I1, st, Xt.refl st.sub, .nil⟩
  | @cons e p es kvs r t ih =>
    intro as F1 H1 I1 st sF hl hp hn hj
    cases as with
    | nil => simp at hl
    | cons a as =>
      rw [List.pairwise_cons] at hp
      obtain ⟨k, v, nk, h1, h2, h3, h4, h5, h6, h7⟩ := r
      obtain ⟨e0, he0, g⟩ := hj 0 a rfl
      have he0 : e = e0 := Option.some.inj he0
      subst he0
      obtain ⟨hlt, hna⟩ := hn a List.mem_cons_self
      have z2 : 2 ≤ sizeLine := by rw [sizeLine_eq]; decide
      have ok : ObjOk X.prog X.w (upd H1 a (.frz (tObj [e.key, e.val]) (.tup [k, v]))) h' a (.frz (tObj [e.key, e.val]) (.tup [k, v])) := tz_ok z2 (.cons h1 (.cons h2 .nil)) g rfl rfl
      have I2 : L2.Inv X pins τ (upd H1 a (.frz (tObj [e.key, e.val]) (.tup [k, v]))) { s with heap := h', toks := tk } := L2.Inv.take (s := { s with heap := h', toks := tk }) (t' := tk) I1 (fun b ob _ e => e) (I0.fpOk (Nat.le_of_lt hlt) hna) ok
      have x2 := Xt.newF (M := M) (o := .frz (tObj [e.key, e.val]) (.tup [k, v])) st.sub hna
      obtain ⟨F2, H2, I3, st3, x3, rr⟩ := ih as _ _ I2 (st.newF hna) (sF.trans x2.frz) (by simpa using hl) hp.2 (fun b hb => ⟨(hn b (List.mem_cons_of_mem _ hb)).1, by rw [upd_ne (Nat.ne_of_gt (hp.1 b hb))]; exact (hn b (List.mem_cons_of_mem _ hb)).2⟩) (fun j b hb => by
        obtain ⟨e1, q1, q2⟩ := hj (j + 1) b (by simpa using hb)
        exact ⟨e1, by simpa using q1, q2⟩)
      refine ⟨F2, H2, I3, st3, x2.trans x3, .cons (Rp.sub x3.frz ?_) rr⟩
      exact tupF (st.sub.none hna) rfl (.cons (Rp.sub sF h3) (.cons (Rp.sub sF h4) .nil)) z2
theorem cr_sitm (hu : X.A.units + 100 < cLine) (hc : X.calm = true) {p a : Addr} {kvs : List (D × D)} (I : L2.Inv X pins τ H s) (st : Stt X.w X.K F0 M0 H0 F M S sl σ H) (hp : H p = some (DX.itemsO p a)) (h : DctAt X.w X.K F H a kvs) (ok : sortOk (kvs.map pairT) = true) {Q : VK}
    (k : ∀ F' H' v, Xt F M H F' M H' → Stt X.w X.K F0 M0 H0 F' M S sl σ H' → RRV X.w X.K H0 F' M H' v (.new (.lst (sortD (kvs.map pairT)))) → NewIn H v (.new (.lst (sortD (kvs.map pairT)))) → Q v H') : wpAny (model X.prog X.w) X.A (call (.builtin "sorted") [.ref p]) (EP X pins τ Q) X.xe s := by
  obtain ⟨o, h, okd⟩ := dctAt_iff.mp h
  obtain ⟨es, ep, hd, pr⟩ := okd.dat
  have hv : s.heap.IsItemsView p a := (I.hok p _ hp).1
  have hl : es.toList.length = kvs.length := pr.length
  have hz := okd.len
  have hsz : es.size = kvs.length := by rw [← hl, Array.length_toList]
  refine DT.sortedI (I.ok.hd hc) hv ⟨o, got I h, okd.ex, hd⟩ (by rw [hsz]; exact hz) fun h' tk as hk hlt hla hG => ?_
  have I1 : L2.Inv X pins τ H { s with heap := h', toks := tk } := I.kept hk
  obtain ⟨F2, H2, I2, st2, x2, rr⟩ := take_pairs (F := F) I pr as F H I1 st (Sub.refl F) (by rw [hla, ← Array.length_toList]) hG.rise (fun b hb => ⟨hG.above b hb, I.hok.fresh (Nat.le_of_lt (hG.above b hb))⟩) (fun j b hb => by
    obtain ⟨e, q1, q2⟩ := hG.pairs j b hb
    exact ⟨e, by rw [Array.getElem?_toList]; exact q1, q2⟩)
  have hV : Vals (as.map V.ref) (as.map Value.ref) := by
    clear rr hla hG
    induction as with
    | nil => exact .nil
    | cons a as ih => exact .cons rfl ih
  refine wpAny_mono (sort_pushed (A := X.A.in1) (by show X.A.units + 1 + 70 < cLine; omega) I2 st2 hV rr (by rw [List.length_map]; exact hz) ok (Q := Q) fun F' H' v x3 st3 r3 n3 => k F' H' v (x2.trans x3) st3 r3 (n3.xt x2)) (fun _ _ q => q) fun _ _ q => q
end
section
variable {X : Cx} {G : Pg} {E : Ev} {k : Nat} {c : Cn}
theorem r_sitm (T : Ctx X G E k) (C : CnOk X c) {a : Ex} {x : Expr} {p apos p3 pos : Pos} (hg : glB c.sc "sorted" = true) (ha : PE X x (tM X.w X.K fun sl S => evE E sl S a)) (hp : plainO x = true) (hl : apos.endLine = p3.line) :
    PE X (.Call (.Name "sorted" p) [.Call (.Attribute x "items" apos) [] [] p3] [] pos) (tM X.w X.K fun sl S => evE E sl S (.sitm a)) := by
  have hu := T.units
  obtain ⟨gl, db⟩ := C.gl hg
  have inner : PE X (.Call (.Attribute x "items" apos) [] [] p3) (fun σ H Q => tM X.w X.K (fun sl S => evE E sl S a) σ H fun v H1 => ∃ (F : Hp) (d : Addr) (kvs : List (D × D)), v = .ref d ∧ DctAt X.w X.K F H1 d kvs ∧ ∀ q, H1 q = none → Q (.ref q) (upd H1 q (DX.itemsO q d))) := by
    refine ⟨fun pins s σ H Q I hh => ?_⟩
    refine wpAny_Call_method0_late (plainO_base hp _ _) (by rw [hl]; exact beq_self_eq_true _) (thn (ha.run pins s σ H _ I hh) fun v s1 ⟨y, H1, I1, ry, F, d, kvs, ey, hd, q⟩ => ?_)
    subst ey
    cases ry
    refine ⟨"dict", "dict.items", PySem.F.plainAttrs_dict, PySem.F.slot_dict_items, PySem.F.type_dict_items, dct_ty I1 hd, dct_nodict I1 hd, Calls.callWith_builtin rfl (PySem.evalArgs_none ?_)⟩
    obtain ⟨o, h, okd⟩ := dctAt_iff.mp hd
    obtain ⟨es, ep, hdd, pr⟩ := okd.dat
    refine DT.callItems (es := es) (ep := ep) okd.sys ⟨o, got I1 h, okd.ex, hdd⟩ ?_
    have hf : H1 s1.heap.objs.size = none := I1.hok.fresh (Nat.le_refl _)
    exact ⟨.ref s1.heap.objs.size, upd H1 s1.heap.objs.size (DX.itemsO s1.heap.objs.size d), I1.laid (t' := s1.toks) (fun b u e => Heap.get?_push_of_some _ e) (Nat.le_refl _) (DX.itemsO_ok (Heap.get?_push_size _ rfl)), rfl, q _ hf⟩
  have cr : CallR X (.builtin "sorted") (fun xs H Q => ∃ (F0 : Hp) (M0 : List Addr) (H0 F : Hp) (M : List Addr) (S : Store) (sl : Slots) (σ : L2.St) (p a : Addr) (kvs : List (D × D)), xs = [.ref p] ∧ Stt X.w X.K F0 M0 H0 F M S sl σ H ∧ H p = some (DX.itemsO p a) ∧ DctAt X.w X.K F H a kvs ∧ sortOk (kvs.map pairT) = true ∧
      ∀ F' H' v, Xt F M H F' M H' → Stt X.w X.K F0 M0 H0 F' M S sl σ H' → RRV X.w X.K H0 F' M H' v (.new (.lst (sortD (kvs.map pairT)))) → NewIn H v (.new (.lst (sortD (kvs.map pairT)))) → Q v H') := by
    intro pins s τ H xs us Q I rv ⟨F0, M0, H0, F, M, S, sl, σ, p, a, kvs, e, st, hp, hd, ok, kk⟩
    subst e
    obtain ⟨v, rfl, rx⟩ := vals1' rv
    cases rx
    exact cr_sitm (by omega) T.calm I st hp hd ok kk
  refine PE.imp (pe_callB cr gl (mg_blt T (by decide +kernel)) (by decide +kernel) (pa_cons inner pa_nil rfl) (by decide +kernel) (by decide +kernel) rfl rfl) fun σ H Q hh => ?_
  obtain ⟨F0, M0, H0, F, M, S, sl, r, S', st, e, kk⟩ := hh
  dsimp only at e
  unfold evE at e
  split at e
  · rename_i ro S1 e1
    obtain ⟨r', e4, e5⟩ := Option.map_eq_some_iff.mp e
    cases e5
    unfold sitmS at e4
    split at e4
    · rename_i kvs hk
      split at e4
      · rename_i hs
        cases e4
        refine tM_then st e1 fun F1 M1 H1 v1 x1 st1 r1 n1 => ?_
        obtain ⟨d, rfl, hd⟩ := toK_rep st1.sub r1 hk
        refine ⟨F1, d, kvs, rfl, hd, fun q hq => ?_⟩
        have st2 := st1.new (o := DX.itemsO q d) hq
        have x2 := Xt.new (M := M1) (o := DX.itemsO q d) st1.sub hq
        have hd2 : DctAt X.w X.K F1 (upd H1 q (DX.itemsO q d)) d kvs := by
          obtain ⟨o, h, okd⟩ := dctAt_iff.mp hd
          exact dctAt_iff.mpr ⟨o, by rw [upd_ne (ne_of_none h hq)]; exact h, okd⟩
        exact ⟨F0, M0, H0, F1, M1, _, sl, σ, q, d, kvs, rfl, st2, upd_same, hd2, hs, fun F' H' v x3 st3 r3 n3 => kk F' M1 H' v (x1.trans (x2.trans x3)) st3 r3 (n3.xt (x1.trans x2))⟩
      · cases e4
    · cases e4
  · cases e
end
end DL

/-! The data layer: dict comprehensions, keys texts. -/
namespace DL
open PySem PySem.Spec PyProof.Rows L2
/-! ### the library's dict of texts and ours -/
section
variable {K : Frg} {F : Hp}
def DKr (K : Frg) (F : Hp) (q : L2.Key × V) (p : D × D) : Prop := ∃ x, q.1 = Sum.inr x ∧ KeyS x p.1 ∧ Rp K F q.2 p.2
theorem DKr.sub {F G : Hp} (s : Sub F G) {q : L2.Key × V} {p : D × D} (h : DKr K F q p) : DKr K G q p := let ⟨x, h1, h2, h3⟩ := h; ⟨x, h1, h2, Rp.sub s h3⟩
theorem paired_imp {α β : Type} {R R' : α → β → Prop} (i : ∀ a b, R a b → R' a b) {as : List α} {bs : List β} (h : Paired R as bs) : Paired R' as bs := by
  induction h with
  | nil => exact .nil
  | cons r t ih => exact .cons (i _ _ r) ih
theorem DKr.is {q : L2.Key × V} {p : D × D} (h : DKr K F q p) (x : Str) : dIs p.1 (.str x) = decide (q.1 = Sum.inr x) := by
  obtain ⟨y, e, hk, _⟩ := h
  rw [hk.1, str_dec, e]
  by_cases hxy : y = x
  · subst hxy; simp
  · rw [decide_eq_false hxy, decide_eq_false (fun z => hxy (Sum.inr.inj z))]
theorem putK_s {vs : List (L2.Key × V)} {kvs : List (D × D)} (pp : Paired (DKr K F) vs kvs) (nd : (vs.map (·.1)).Nodup) {k : Str} {d e : D} {v : V} (hk : KeyS k d) (hz : Rp K F v e) : Paired (DKr K F) (putK vs (Sum.inr k) v) (dPut kvs d e) := by
  obtain ⟨rfl, _, _⟩ := id hk
  refine put_g (R := DKr K F) (k := Sum.inr k) (d := .str k) (f := fun kv => if kv.1 = Sum.inr k then (kv.1, v) else kv) (n := (Sum.inr k, v)) (fun q p r => DKr.is r k) (fun x hx => if_neg hx) (fun q p hq e => ?_) ⟨k, rfl, hk, hz⟩ pp nd
  rw [if_pos e]
  obtain ⟨y, h1, h2, _⟩ := hq
  exact ⟨y, h1, h2, hz⟩
theorem putK_nodup {vs : List (L2.Key × V)} (nd : (vs.map (·.1)).Nodup) (k : L2.Key) (r : V) : ((putK vs k r).map (·.1)).Nodup := by
  unfold putK
  split
  · rw [List.map_map]
    have : (List.map ((fun kv : L2.Key × V => kv.1) ∘ fun kv => if kv.1 = k then (kv.1, r) else kv) vs) = vs.map (·.1) := by
      refine List.map_congr_left fun x _ => ?_
      show (if x.1 = k then (x.1, r) else x).1 = x.1
      split <;> rfl
    rw [this]; exact nd
  · rename_i h
    rw [List.map_append, List.nodup_append]
    refine ⟨nd, by simp, fun x hx y hy e => ?_⟩
    have hy : y = k := by simpa using hy
    subst e hy
    obtain ⟨p, hp, e⟩ := List.mem_map.mp hx
    exact h (List.any_eq_true.mpr ⟨p, hp, decide_eq_true e⟩)
end
section
variable {X : Cx} {pins : List (Addr × Obj)} {s : Shared} {τ : L2.St} {F H : Hp} {a : Addr}
theorem ents_dk {P : Program} {w : World} {K : Frg} : ∀ {es : List DictEntry} {vs : List (L2.Key × Value)} {kvs : List (L2.Key × V)} {kds : List (D × D)}, Pairs (mixKind P w) es vs → (∀ e ∈ es, ∃ k, (mixKind P w).is k e.key = true ∧ e.hash = (mixKind P w).hash k) → KV kvs vs → Paired (DKr K F) kvs kds →
    Paired (EnOk w K F) es kds ∧ kds.map (fun p => nkey p.1) = (vs.map (·.1)).map (fun k => match k with | Sum.inr x => some (NestedKey.text x) | _ => none) ∧ KindS (kds.map (·.1)) ∧ (∀ k ∈ vs.map (·.1), ∃ x, k = Sum.inr x)
  | _, _, _, _, .nil, _, .nil, .nil => ⟨.nil, rfl, (fun _ h => nomatch h), fun _ h => nomatch h⟩
  | _, _, _, _, .cons h1 h2 t, hk, .cons r1 r2, .cons q1 q2 => by
    obtain ⟨i1, i2, i3, i4⟩ := ents_dk t (fun e he => hk e (List.mem_cons_of_mem _ he)) r2 q2
    obtain ⟨x, e1, ⟨ex, o, z⟩, rp⟩ := q1
    obtain ⟨r0, rv⟩ := r1
    obtain ⟨k, g1, g2⟩ := hk _ List.mem_cons_self
    have e2 := r0.symm.trans e1
    rw [e2] at h1
    have hkx : k = Sum.inr x := (mixKind P w).inj _ _ _ g1 h1
    subst hkx
    obtain ⟨t, et⟩ := Value.isStrOf_shape (x := x) h1
    refine ⟨.cons ⟨.str x, _, .text x, ⟨t, et⟩, by rw [h2]; exact rv, by rw [ex]; exact .str o z, rp, by rw [ex]; rfl, Nat.zero_le _, g2⟩ i1, ?_, fun d hd => ?_, fun k hk => ?_⟩
    · rw [List.map_cons, List.map_cons, List.map_cons, i2, ex, e2]; rfl
    · rw [List.map_cons, List.mem_cons] at hd
      rcases hd with rfl | hd
      · exact ⟨_, ex⟩
      · exact i3 d hd
    · rw [List.map_cons, List.mem_cons] at hk
      rcases hk with rfl | hk
      · exact ⟨x, e2⟩
      · exact i4 k hk
/-- the same object, told as ours -/
theorem dk_ghost (I : L2.Inv X pins τ H s) {kvs : List (L2.Key × V)} {kds : List (D × D)} (h : H a = some (.dK kvs)) (pp : Paired (DKr X.K F) kvs kds) : ∃ o, L2.Inv X pins τ (upd H a (exo a o)) s ∧ DcOk X.w X.K F a o kds := by
  obtain ⟨z, sys, vs, rel, o, es, ep, g, ex, dt, ko, pr, nd⟩ := dk_of I.hok h
  obtain ⟨i1, i2, i3, i4⟩ := ents_dk pr (fun e he => ko e (by simpa using he)) rel pp
  refine ⟨o, L2.Inv.write (t' := s.toks) (x := a) (e := a) I (by rw [h]; trivial) (.inl rfl) (fun b u _ q => q) ⟨o, g⟩ (exo_ok g), ⟨ex, sys, by rw [← pp.length]; exact z, ?_, .inl i3, es, ep, dt, i1⟩⟩
  rw [i2]
  unfold List.Nodup at nd ⊢
  rw [List.pairwise_map]
  refine nd.imp_of_mem fun {x y} hx hy hne e => hne ?_
  obtain ⟨x', rfl⟩ := i4 x hx
  obtain ⟨y', rfl⟩ := i4 y hy
  cases e
  rfl
end
theorem Stt.over2 {w : World} {K : Frg} {F0 H0 F H F' H' : Hp} {M0 M M' : List Addr} {S S' : Store} {sl : Slots} {σ : L2.St} (st : Stt w K F0 M0 H0 F M S sl σ H) {p : Addr} (hn : H p = none) (x0 : Xt F M H F' M' H') (cl : Cls K F' M' H' S') (fp' : F' p = none) (nm : p ∉ M') (o : HO) :
    Xt F M H F' M' (upd H' p o) ∧ Stt w K F0 M0 H0 F' M' S' sl σ (upd H' p o) := by
  have xx : Xt F M H F' M' (upd H' p o) :=
    ⟨fun a u ha e => by rw [upd_ne (ne_of_none e hn)]; exact x0.keep a u ha e, fun a e => by
        by_cases ha : a = p
        · subst ha; rw [upd_same]; exact fun z => nomatch z
        · rw [upd_ne ha]; exact x0.there a e,
      x0.frz, fun a u e => by rw [upd_ne (ne_of_none e fp')]; exact x0.sub a u e, x0.own, x0.cel⟩
  exact ⟨xx, st.xt xx (cl.mono (Sub.refl _) (fun a ha => (cl.mem_some ha).1) fun a ha => upd_ne fun e => nm (e ▸ ha))⟩
/-! ### the pairs that come -/
theorem pairsD_app : ∀ {xs ys : List D} {kvs : List (D × D)}, pairsD (xs ++ ys) = some kvs → ∃ ka kb, pairsD xs = some ka ∧ pairsD ys = some kb ∧ kvs = ka ++ kb
  | [], ys, kvs, h => ⟨[], kvs, rfl, h, rfl⟩
  | x :: xs, ys, kvs, h => by
    rw [List.cons_append] at h
    unfold pairsD at h
    split at h
    · cases ‹_ :: _ = []›
    · rename_i k v r hd
      cases hd
      obtain ⟨kvs', e, rfl⟩ := Option.map_eq_some_iff.mp h
      obtain ⟨ka, kb, e1, e2, rfl⟩ := pairsD_app e
      exact ⟨(k, v) :: ka, kb, by unfold pairsD; rw [e1]; rfl, e2, rfl⟩
    · cases h
theorem dMerge_app (xs ys : List (D × D)) : ∀ kvs, dMerge kvs (xs ++ ys) = dMerge (dMerge kvs xs) ys := by
  induction xs with
  | nil => intro kvs; rfl
  | cons p r ih => intro kvs; rw [List.cons_append, dMerge, dMerge]; exact ih _
theorem strKeys_app {xs ys : List (D × D)} (h : strKeys (xs ++ ys) = true) : strKeys xs = true ∧ strKeys ys = true := by
  unfold strKeys at *
  rw [List.all_append, Bool.and_eq_true] at h
  exact h
section
variable {X : Cx} {w : World} {K : Frg}
/-- the state of a dict comprehension -/
structure DcSt (w : World) (K : Frg) (F1 : Hp) (M1 : List Addr) (H1 : Hp) (dl : Addr) (f : D → Store → Option (Option D × Store)) (ds zs : List D) (S2 : Store) (i : Nat) (H : Hp) : Prop where
  ex : ∃ (F : Hp) (M : List Addr) (S : Store) (vs : List (L2.Key × V)) (ys rs : List D) (kys : List (D × D)), Xt F1 M1 H1 F M H ∧ Cls K F M H S ∧ F dl = none ∧ dl ∉ M ∧ H dl = some (.dK vs) ∧ pairsD ys = some kys ∧ Paired (DKr K F) vs (dMerge [] kys) ∧ (vs.map (·.1)).Nodup ∧ vs.length ≤ i ∧ lcGo f (ds.drop i) S = some (rs, S2) ∧ ys ++ rs = zs
/-- what a turn of it does -/
def dcStep (E : Ev) (sl : Slots) (kk vv : Ex) (tg : Tg) (cd : Exo) (own : List Nat) (d : D) (S : Store) : Option (Option D × Store) := match asgT tg (.val d) (wipeS sl own) with
  | some sl1 => match evC E sl1 S cd with
    | some (true, S1) => match dat? (fz? (evE E sl1 S1 kk)) with
      | some (dk, S2) => (dat? (fz? (evE E sl1 S2 vv))).map fun p => (some (.tuple [dk, p.1]), p.2)
      | none => none
    | some (false, S1) => some (none, S1)
    | none => none
  | none => none
def GhQ (w : World) (K : Frg) (Q : VK) : VK := fun v H' => ∃ (D : Addr) (F : Hp) (kvs : List (L2.Key × V)) (kds : List (DL.D × DL.D)), H' D = some (.dK kvs) ∧ Paired (DKr K F) kvs kds ∧ ∀ o, DcOk w K F D o kds → Q v (upd H' D (exo D o))
def GhN (w : World) (K : Frg) (N : L2.St → Hp → Prop) : L2.St → Hp → Prop := fun σ H' => ∃ (D : Addr) (F : Hp) (kvs : List (L2.Key × V)) (kds : List (DL.D × DL.D)), H' D = some (.dK kvs) ∧ Paired (DKr K F) kvs kds ∧ ∀ o, DcOk w K F D o kds → N σ (upd H' D (exo D o))
theorem pe_ghost {e : Expr} {t : TE} (h : PE X e t) : PE X e (fun σ H Q => t σ H (GhQ X.w X.K Q)) := by
  refine ⟨fun pins s σ H Q I hh => thn (h.run pins s σ H _ I hh) fun u s1 ⟨v, H1, I1, ru, D, F, kvs, kds, hD, pp, q⟩ => ?_⟩
  obtain ⟨o, I2, ok⟩ := dk_ghost I1 hD pp
  exact ⟨v, _, I2, ru, q o ok⟩
theorem ps_ghost {st : Stmt} {t : TS} (h : PS X st t) : PS X st (fun D σ H => t { D with nx := GhN X.w X.K D.nx } σ H) := by
  refine ⟨fun pins s σ H D I hh => thn (h.run pins s σ H _ I hh) fun f s1 sp => ?_⟩
  cases f with
  | next =>
    obtain ⟨σ', H', I', D0, F, kvs, kds, hD, pp, q⟩ := sp
    obtain ⟨o, I2, ok⟩ := dk_ghost I' hD pp
    exact ⟨σ', _, I2, q o ok⟩
  | _ => exact sp
/-- name = {k: v for ..} on one line, the name a local -/
theorem ps_setDc {i : Nat} {y : Str} {py : Pos} {kx vx tg iter : Expr} {ifs : List Expr} {scope : Scope} {own : List (Str × Nat)} {pos spos : Pos} {wi : TI} {g : TG} {tt : TT} {tk tv : TE} (hc : X.calm = true) (hN : X.N.Nodup) (hy : X.N[i]? = some y) (hyl : X.env.scope.names.lookup y = some .local)
    (hsw : swapsWith (.DictComp kx vx [⟨tg, iter, ifs, 0⟩] scope pos) (some (.Name y py)) spos.line X.env = pure true) (hi : PI X tg iter wi) (ok : BlkOk X.N X.env.scope scope own)
    (hg : ∀ (s : Shared) (H : Hp) (C : Addr) (cl : List (Str × Addr)) (fp : List Addr), PG (X.blk s H scope (compEnvC scope cl C X.env) fp) tg g) (ht : ∀ (s : Shared) (H : Hp) (C : Addr) (cl : List (Str × Addr)) (fp : List Addr), PTs (X.blk s H scope (compEnvC scope cl C X.env) fp) ifs tt)
    (hk : ∀ (s : Shared) (H : Hp) (C : Addr) (cl : List (Str × Addr)) (fp : List Addr), PE (X.blk s H scope (compEnvC scope cl C X.env) fp) kx tk)
    (he : ∀ (s : Shared) (H : Hp) (C : Addr) (cl : List (Str × Addr)) (fp : List Addr), PE (X.blk s H scope (compEnvC scope cl C X.env) fp) vx tv) (hs : ∀ x, foldedSetIterable iter X.env x = pure x) :
    PS X (.Assign [.Name y py] (.DictComp kx vx [⟨tg, iter, ifs, 0⟩] scope pos) spos) (tAsg (tDc wi g tt tk tv (own.map (·.2))) (gName i)) := by
  refine ⟨fun pins s σ H D I h => ?_⟩
  rw [exec_Assign_Name_used _ _ _ _ hsw]
  refine wpAny_bind (wpAny_standAt (wpAny_bind ?_))
  show wpAny _ X.A (do let _ ← comprehension (.DictComp kx vx [⟨tg, iter, ifs, 0⟩] scope pos) scope X.env (firstIterPos [⟨tg, iter, ifs, 0⟩] pos) newDict false (eval iter X.env) (some (assign (.Name y py) X.env))) _ _ s
  have h : tDc wi g tt tk tv (own.map (·.2)) σ H (fun x H1 => gName i x σ H1 D.nx) := h
  refine wpAny_bind (thn (dc_core (Qf := fun _ s' => SP X pins D .next s') hc hN I hi ok hg ht hk he hs h fun L C s' m H' I' q hn f => ?_) fun _ s' hq => wpAny_pure (wpAny_pure hq))
  show wpAny _ _ (assign (.Name y py) X.env (.ref L)) _ _ _
  refine wpAny_assign_Name (store_ok2 (v := V.ref L) I' hN hy (.inl hyl) rfl (fun s2 I2 ⟨a, sb, ha⟩ => ?_) (.inr hyl))
  obtain ⟨f0, f1, f2, f3, f4, f5⟩ := f
  have haC : C ≠ a := by
    rcases ha with z | z
    · rw [z]; exact f1
    · exact fun e => f4 y a z e.symm
  exact ⟨m, hn.sameBut sb haC, fun h3 sb3 => ⟨_, H', I2.turned (t' := s2.toks) (fun b o hb e => (sb3.2 b hb).trans e) f0 f1 f3 f4 f5, q⟩⟩
theorem dc_it {J : It} {n : Nat} {G : Hp → Prop} {Y : Nat → Hp → V → Hp → Prop} (w : Walk J n G Y) {g : TG} {tt : TT} {tk tv : TE} {vs : List Nat} {σ : L2.St} {H1 : Hp} {D : Addr} {Qd : Hp → Prop} (Pv : Nat → Hp → Prop) (h0 : Pv 0 (upd H1 D (.dK []))) (hG : ∀ i H, i ≤ n → Pv i H → G H)
    (hs : ∀ i x H H', i < n → Pv i H → Y i H x H' → g x (wipe σ vs) H' fun σ2 H2 => wipe σ2 vs = wipe σ vs ∧ tt σ2 H2 fun b H3 =>
      if b = true then tk σ2 H3 fun y H4 => tv σ2 H4 fun z H5 => ∃ kvs k, y = kV k ∧ H5 D = some (.dK kvs) ∧ kvs.length < sizeLine ∧ Pv (i + 1) (upd H5 D (.dK (putK kvs k z))) else Pv (i + 1) H3) (hd : ∀ H, Pv n H → Qd H) :
    ∃ W : Nat → Nat → Hp → Prop, (∃ m, W 0 m (upd H1 D (.dK []))) ∧ ∀ i m H, W i m H →
      (J.stop i H ∧ Qd H) ∨ (J.go i H ∧ ∃ Nx : Hp → Prop, (∀ H', Nx H' → ∃ m', m' < m ∧ W (i + 1) m' H') ∧ ∀ x H', J.yld i H x H' → g x (wipe σ vs) H' fun σ2 H2 => wipe σ2 vs = wipe σ vs ∧ tt σ2 H2 fun b H3 =>
        if b = true then tk σ2 H3 fun y H4 => tv σ2 H4 fun z H5 => ∃ kvs k, y = kV k ∧ H5 D = some (.dK kvs) ∧ kvs.length < sizeLine ∧ Nx (upd H5 D (.dK (putK kvs k z))) else Nx H3) := by
  refine ⟨fun i m H => m = n - i ∧ i ≤ n ∧ Pv i H, ⟨n, by simp, Nat.zero_le _, h0⟩, ?_⟩
  rintro i m H ⟨rfl, hi, p⟩
  have q := hG i H hi p
  by_cases hlt : i < n
  · exact .inr ⟨w.goes i H hlt q, Pv (i + 1), fun H' p' => ⟨n - (i + 1), by omega, rfl, hlt, p'⟩, fun x H' y => hs i x H H' hlt p (w.yields i H x H' hlt q y)⟩
  · have e : i = n := by omega
    subst e
    exact .inl ⟨w.stops H q, hd H p⟩
theorem r_dc (hc : X.calm = true) (hN : X.N.Nodup) {E : Ev} {kk vv : Ex} {tg : Tg} {it : Itr} {cd : Exo} {own : List Nat} {ke ve t i : Expr} {ifs : List Expr} {scope : Scope} {pos : Pos} {on : List (Str × Nat)} (hon : on.map (·.2) = own)
    (hi : PI X t i (tI X.w X.K fun sl S => evI E sl S it)) (ok : BlkOk X.N X.env.scope scope on)
    (hg : ∀ (s : Shared) (H : Hp) (C : Addr) (cl : List (Str × Addr)) (fp : List Addr), PG (X.blk s H scope (compEnvC scope cl C X.env) fp) t (tG X.w X.K tg))
    (ht : ∀ (s : Shared) (H : Hp) (C : Addr) (cl : List (Str × Addr)) (fp : List Addr), PTs (X.blk s H scope (compEnvC scope cl C X.env) fp) ifs (tT X.w X.K fun sl S => evC E sl S cd))
    (hk : ∀ (s : Shared) (H : Hp) (C : Addr) (cl : List (Str × Addr)) (fp : List Addr), PE (X.blk s H scope (compEnvC scope cl C X.env) fp) ke (tM X.w X.K fun sl S => evE E sl S kk))
    (hv : ∀ (s : Shared) (H : Hp) (C : Addr) (cl : List (Str × Addr)) (fp : List Addr), PE (X.blk s H scope (compEnvC scope cl C X.env) fp) ve (tM X.w X.K fun sl S => evE E sl S vv))
    (hs : ∀ x, foldedSetIterable i X.env x = pure x) (hown : ∀ j ∈ tg.ix, j ∈ own) :
    ∃ tl, PE X (.DictComp ke ve [⟨t, i, ifs, 0⟩] scope pos) tl ∧ (∀ (y : Str) (py : Pos) (j : Nat) (spos : Pos), X.N[j]? = some y → X.env.scope.names.lookup y = some .local → swapsWith (.DictComp ke ve [⟨t, i, ifs, 0⟩] scope pos) (some (.Name y py)) spos.line X.env = pure true →
      PS X (.Assign [.Name y py] (.DictComp ke ve [⟨t, i, ifs, 0⟩] scope pos) spos) (tAsg tl (gName j))) ∧ ∀ σ H Q, tM X.w X.K (fun sl S => evE E sl S (.dc kk vv tg it cd own)) σ H Q → tl σ H Q := by
  refine ⟨fun σ H Q => tDc (tI X.w X.K fun sl S => evI E sl S it) (tG X.w X.K tg) (tT X.w X.K fun sl S => evC E sl S cd) (tM X.w X.K fun sl S => evE E sl S kk) (tM X.w X.K fun sl S => evE E sl S vv) (on.map (·.2)) σ H (GhQ X.w X.K Q), pe_ghost (pe_dc hc hN hi ok hg ht hk hv hs), fun y py j spos h1 h2 h3 => ?_, fun σ H Q hh => ?_⟩
  · have p0 := ps_ghost (ps_setDc hc hN h1 h2 h3 hi ok hg ht hk hv hs)
    exact p0
  · rw [hon]
    obtain ⟨F0, M0, H0, F, M, S, sl, r, S', st, e, kkk⟩ := hh
    dsimp only at e
    unfold evE at e
    split at e
    · rename_i ds S1 e1
      split at e
      · rename_i zs S2 e2
        split at e
        · rename_i kvs ek
          split at e
          · rename_i hsk
            cases e
            have e2 : lcGo (dcStep E sl kk vv tg cd own) ds S1 = some (zs, S') := e2
            refine tI_then st e1 fun F1 M1 H1 J x1 st1 wk D hD => ?_
            refine dc_it wk.1 (DcSt X.w X.K F1 M1 H1 D (dcStep E sl kk vv tg cd own) ds zs S') ?_ ?_ ?_ ?_
            · exact ⟨F1, M1, S1, [], [], zs, [], Xt.new st1.sub hD, st1.cls.new st1.sub hD, st1.sub.none hD, fun z => (st1.cls.mem_some z).2 hD, upd_same, rfl, .nil, List.nodup_nil, Nat.le_refl _, e2, rfl⟩
            · rintro n H' _ ⟨F', M', S', vs, ys, rs, kys, xx, _⟩
              exact xx.frz.trans xx.sub
            · rintro n v H' H'' hn ⟨F', M', S3, vs, ys, rs, kys, xx, cl, fD, mD, hL, hky, pp, nd, hlen, go, fin⟩ yd
              obtain ⟨d, F'', ed, xa, rd, hcase⟩ := xt_cons (M := M') xx.frz xx.sub yd
              have cl2 : Cls X.K F'' M' H'' S3 := by
                rcases hcase with ⟨rfl, rfl⟩ | ⟨T, o, hT, rfl, rfl⟩
                · exact cl
                · exact cl.newF xx.sub hT
              have xx2 := xx.trans xa
              have st2 : Stt X.w X.K F0 M0 H0 F'' M' S3 (wipeS sl own) (wipe σ own) H'' := (st1.xt xx2 cl2).wipe own
              have hHD : H' D ≠ none := by rw [hL]; exact fun z => nomatch z
              have hL2 : H'' D = some (.dK vs) := xa.keep _ _ mD hL
              have fD2 : F'' D = none := xa.own _ fD hHD
              have drop : ds.drop n = d :: ds.drop (n + 1) := by
                rw [List.drop_eq_getElem_cons hn]
                have : ds[n] = d := by
                  have := List.getElem?_eq_getElem hn
                  rw [ed] at this
                  exact (Option.some.inj this).symm
                rw [this]
              rw [drop] at go
              unfold lcGo at go
              cases ea : asgT tg (.val d) (wipeS sl own) with
              | none => simp [dcStep, ea] at go
              | some sl1 =>
                refine ⟨F0, M0, H0, F'', M', S3, wipeS sl own, .val d, sl1, st2, rfl, rsv_d rd, ea, fun σ2 hw st3 => ⟨(hw own hown).trans (wipe_wipe σ own), ?_⟩⟩
                cases ec : evC E sl1 S3 cd with
                | none => simp [dcStep, ea, ec] at go
                | some p =>
                  obtain ⟨b, S4⟩ := p
                  refine ⟨F0, M0, H0, F'', M', S3, sl1, b, S4, st3, ec, fun F4 M4 H4 x4 st4 => ?_⟩
                  have hL4 : H4 D = some (.dK vs) := x4.keep _ _ mD hL2
                  have fD4 : F4 D = none := x4.own _ fD2 (by rw [hL2]; exact fun z => nomatch z)
                  have mD4 : D ∉ M4 := fun z => mD (x4.mem z (by rw [hL2]; exact fun z => nomatch z))
                  cases b with
                  | false =>
                    show (if (false = true) then _ else _)
                    rw [if_neg Bool.false_ne_true]
                    have go' : lcGo (dcStep E sl kk vv tg cd own) (ds.drop (n + 1)) S4 = some (rs, S') := by
                      have : dcStep E sl kk vv tg cd own d S3 = some (none, S4) := by simp [dcStep, ea, ec]
                      simpa [this] using go
                    exact ⟨F4, M4, S4, vs, ys, rs, kys, xx2.trans x4, st4.cls, fD4, mD4, hL4, hky, paired_imp (fun _ _ => DKr.sub (xa.frz.trans x4.frz)) pp, nd, by omega, go', fin⟩
                  | true =>
                    show (if (true = true) then _ else _)
                    rw [if_pos rfl]
                    cases eek : dat? (fz? (evE E sl1 S4 kk)) with
                    | none => simp [dcStep, ea, ec, eek] at go
                    | some q0 =>
                      obtain ⟨dk, S5⟩ := q0
                      cases ee : dat? (fz? (evE E sl1 S5 vv)) with
                      | none => simp [dcStep, ea, ec, eek, ee] at go
                      | some q =>
                        obtain ⟨y, S6⟩ := q
                        have hst : dcStep E sl kk vv tg cd own d S3 = some (some (.tuple [dk, y]), S6) := by simp [dcStep, ea, ec, eek, ee]
                        simp only [hst] at go
                        split at go
                        · rename_i ys' S7 go'
                          cases go
                          -- the key is a text
                          have hz : pairsD ((ys ++ [.tuple [dk, y]]) ++ ys') = some kvs := by rw [List.append_assoc]; rw [← ek, ← fin]; rfl
                          obtain ⟨ka, kb, h1, h2, h3⟩ := pairsD_app hz
                          obtain ⟨ka1, ka2, h4, h5, h6⟩ := pairsD_app h1
                          rw [hky] at h4
                          cases h4
                          cases h5
                          have hsk3 : strKeys (kys ++ [(dk, y)]) = true := by rw [← h6]; exact (strKeys_app (by rw [← h3]; exact hsk)).1
                          have hsk4 := (strKeys_app hsk3).2
                          have : ∃ x, dk = .str x := by
                            cases dk with
                            | str x => exact ⟨x, rfl⟩
                            | _ => cases hsk4
                          obtain ⟨x, rfl⟩ := this
                          refine tX_of (tX_then st4 (dat_inv eek) fun F5 M5 H5 v5 x5 st5 f5 q5 => tX_of (tX_then st5 (dat_inv ee) fun F6 M6 H6 v6 x6 st6 f6 q6 => ?_))
                          obtain ⟨rfl, o1, o2⟩ := (dat_rp q5).str_inv
                          have x46 := x5.trans x6
                          have hne4 : H4 D ≠ none := by rw [hL4]; exact fun z => nomatch z
                          have hL6 : H6 D = some (.dK vs) := x46.keep _ _ mD4 hL4
                          have fD6 : F6 D = none := x46.own _ fD4 hne4
                          have mD6 : D ∉ M6 := fun z => mD4 (x46.mem z hne4)
                          have x16 := (xx2.trans x4).trans x46
                          have hl2 := length_putK vs (Sum.inr x) v6
                          refine ⟨vs, Sum.inr x, rfl, hL6, by have := wk.2; omega, F6, M6, S6, putK vs (Sum.inr x) v6, ys ++ [.tuple [.str x, y]], ys', kys ++ [(.str x, y)], ?_, ?_, fD6, mD6, upd_same, by rw [← h6]; exact h1, ?_, putK_nodup nd _ _, by omega, go', by rw [← fin, List.append_assoc]; rfl⟩
                          · refine ⟨fun a o hm ea => ?_, fun a ea => ?_, x16.frz, fun a o ea => ?_, x16.own, x16.cel⟩
                            · rw [upd_ne (ne_of_none ea hD)]; exact x16.keep a o hm ea
                            · by_cases h : a = D
                              · subst h; rw [upd_same]; exact fun z => nomatch z
                              · rw [upd_ne h]; exact x16.there a ea
                            · rw [upd_ne (fun z => by subst z; rw [fD6] at ea; cases ea)]; exact x16.sub a o ea
                          · exact st6.cls.mono (Sub.refl _) (fun a ha => (st6.cls.mem_some ha).1) fun a ha => upd_ne fun (z : a = D) => mD6 (by rw [← z]; exact ha)
                          · rw [dMerge_app]
                            exact putK_s (paired_imp (fun _ _ => DKr.sub ((xa.frz.trans x4.frz).trans x46.frz)) pp) nd ⟨rfl, o1, o2⟩ (dat_rp q6)
                        · cases go
            · rintro H' ⟨F', M', S3, vs, ys, rs, kys, xx, cl, fD, mD, hL, hky, pp, nd, hlen, go, fin⟩
              rw [List.drop_eq_nil_of_le (Nat.le_refl _)] at go
              cases go
              rw [List.append_nil] at fin
              subst fin
              rw [hky] at ek
              cases ek
              refine ⟨D, F', vs, _, hL, pp, fun o ok => ?_⟩
              obtain ⟨x2, st2⟩ := st1.over2 hD xx cl fD mD (exo D o)
              exact kkk F' M' _ _ (x1.trans x2) st2 (Stt.filled st1 hD fD mD ok) ((newIn hD).xt x1)
          · cases e
        · cases e
      · cases e
    · cases e
end
end DL

/-! The data layer: double comprehensions. -/
namespace DL
open PySem PySem.Spec PyProof.Rows L2
section
variable {w : World} {K : Frg} {F0 H0 F H F' H' : Hp} {M0 M M' : List Addr} {S S' : Store} {sl : Slots} {σ : L2.St}
def AllFree (sl : Slots) : Prop := ∀ (i : Nat) sv, sl[i]? = some (some sv) → sv.free = true
theorem noOwn_at {i : Nat} {sv : SV} (h : (noOwn sl)[i]? = some (some sv)) : sl[i]? = some (some sv) ∧ sv.free = true := by
  unfold noOwn at h
  rw [List.getElem?_map] at h
  obtain ⟨o, e, h⟩ := Option.map_eq_some_iff.mp h
  cases o with
  | none => cases h
  | some v =>
    dsimp only at h
    split at h
    · cases h; exact ⟨e, by assumption⟩
    · cases h
theorem noOwn_free : AllFree (noOwn sl) := fun _ _ h => (noOwn_at h).2
theorem Stt.noOwn (st : Stt w K F0 M0 H0 F M S sl σ H) : Stt w K F0 M0 H0 F M S (noOwn sl) σ H :=
  ⟨st.base, by unfold DL.noOwn; rw [List.length_map]; exact st.len, st.cls, fun i sv h => st.slots i sv (noOwn_at h).1, fun i j oi oj v h _ _ _ => (by have := (noOwn_at h).2; cases this), fun i sv h => .inl (noOwn_at h).2⟩
theorem wipeS_at {own : List Nat} {i : Nat} {sv : SV} (h : (wipeS sl own)[i]? = some (some sv)) : sl[i]? = some (some sv) := by
  induction own with
  | nil => exact h
  | cons v vs ih =>
    unfold wipeS at h
    by_cases hv : v = i
    · subst hv
      rw [List.getElem?_set] at h
      simp at h
    · rw [List.getElem?_set_ne hv] at h
      exact ih h
theorem AllFree.wipe (h : AllFree sl) (own : List Nat) : AllFree (wipeS sl own) := fun i sv e => h i sv (wipeS_at e)
theorem AllFree.set (h : AllFree sl) {i : Nat} {v : SV} (f : v.free = true) : AllFree (sl.set i (some v)) := fun j sv e => by
  by_cases hij : i = j
  · subst hij
    rw [List.getElem?_set] at e
    simp at e
    rw [← e.2]; exact f
  · rw [List.getElem?_set_ne hij] at e
    exact h j sv e
theorem AllFree.setAll : ∀ {is : List Nat} {vs : List SV} {sl sl' : Slots}, AllFree sl → (∀ v ∈ vs, v.free = true) → setAll is vs sl = some sl' → AllFree sl'
  | [], [], _, _, h, _, e => by cases e; exact h
  | i :: is, v :: vs, sl, sl', h, hv, e => AllFree.setAll (h.set (hv v List.mem_cons_self)) (fun u hu => hv u (List.mem_cons_of_mem _ hu)) (show DL.setAll is vs _ = some sl' from e)
  | [], _ :: _, _, _, _, _, e => by cases e
  | _ :: _, [], _, _, _, _, e => by cases e
theorem AllFree.asg (h : AllFree sl) {tg : Tg} {d : D} {sl' : Slots} (e : asgT tg (.val d) sl = some sl') : AllFree sl' := by
  unfold asgT at e
  split at e
  · cases e; exact h.set rfl
  · rename_i hd
    cases hd
    exact h.setAll (fun v hv => by obtain ⟨x, _, rfl⟩ := List.mem_map.mp hv; rfl) e
  · rename_i hd; cases hd
  · rename_i hd
    cases hd
    exact AllFree.setAll (h.set rfl) (fun v hv => by obtain ⟨x, _, rfl⟩ := List.mem_map.mp hv; rfl) e
  · cases e
/-- a frame without owned objects, further on -/
theorem Stt.move (st : Stt w K F0 M0 H0 F M S sl σ H) (af : AllFree sl) (b : Xt F0 M0 H0 F' M' H') (s : Sub F F') (m : ∃ n, M' = M ++ n) (cl : Cls K F' M' H' S') : Stt w K F0 M0 H0 F' M' S' sl σ H' := by
  obtain ⟨n, hn⟩ := m
  have x : Xt F M F F' M' F' := ⟨fun a o _ e => s a o e, fun a e => by
      cases q : F a with
      | none => exact absurd q e
      | some o => rw [s a o q]; exact fun z => (nomatch z),
    s, Sub.refl _, fun a e h => absurd e h, n, hn, fun a ha => by
      have := (cl.mem_some (a := a) (by rw [hn]; exact List.mem_append_right _ ha)).1
      exact Sub.none s this⟩
  refine ⟨b, st.len, cl, fun i sv e => ?_, fun i j oi oj v e _ _ _ => (by have := af i _ e; cases this), fun i sv e => .inl (af i sv e)⟩
  obtain ⟨v, q, r⟩ := st.slots i sv e
  have f := af i sv e
  exact ⟨v, q, RSV.free (H1 := H') (H0' := H0) f (RSV.xt x (RSV.free (H1 := F) (H0' := H0) f r))⟩
theorem Xt.cells (x : Xt F M H F' M' H') : ∃ n, M' = M ++ n := let ⟨m, e, _⟩ := x.cel; ⟨m, e⟩
end
section
variable {X : Cx}
/-- what the inner turn does -/
def l2In (E : Ev) (sl1 : Slots) (elt : Ex) (tg1 : Tg) (cd1 : Exo) (own1 : List Nat) (d : D) (S : Store) : Option (Option D × Store) := match asgT tg1 (.val d) (wipeS sl1 own1) with
  | some sl2 => match evC E sl2 S cd1 with
    | some (true, S1) => (dat? (fz? (evE E sl2 S1 elt))).map fun p => (some p.1, p.2)
    | some (false, S1) => some (none, S1)
    | none => none
  | none => none
def l2Out (E : Ev) (sl : Slots) (elt : Ex) (tg : Tg) (cd : Exo) (tg1 : Tg) (it1 : Itr) (cd1 : Exo) (own own1 : List Nat) (d : D) (S : Store) : Option (List D × Store) := match asgT tg (.val d) (wipeS (noOwn sl) own) with
  | some sl1 => match evC E sl1 S cd with
    | some (true, S1) => match evI E sl1 S1 it1 with
      | some (es, S2) => lcGo (l2In E sl1 elt tg1 cd1 own1) es S2
      | none => none
    | some (false, S1) => some ([], S1)
    | none => none
  | none => none
structure L2St (w : World) (K : Frg) (F1 : Hp) (M1 : List Addr) (H1 : Hp) (dl : Addr) (f : D → Store → Option (List D × Store)) (ds zs : List D) (S2 : Store) (i : Nat) (H : Hp) : Prop where
  ex : ∃ (F : Hp) (M : List Addr) (S : Store) (vs : List V) (ys rs : List D), Xt F1 M1 H1 F M H ∧ Cls K F M H S ∧ F dl = none ∧ dl ∉ M ∧ H dl = some (.lst vs) ∧ Rps K F vs ys ∧ lc2Go f (ds.drop i) S = some (rs, S2) ∧ ys ++ rs = zs
structure L2In (w : World) (K : Frg) (F1 : Hp) (M1 : List Addr) (H1 : Hp) (F4 : Hp) (M4 : List Addr) (dl : Addr) (f : D → Store → Option (List D × Store)) (f1 : D → Store → Option (Option D × Store)) (ds es zs : List D) (S2 : Store) (j : Nat) (H : Hp) : Prop where
  ex : ∃ (F : Hp) (M : List Addr) (S Sm : Store) (vs : List V) (ys r1 rs : List D), Xt F1 M1 H1 F M H ∧ Sub F4 F ∧ (∃ n, M = M4 ++ n) ∧ Cls K F M H S ∧ F dl = none ∧ dl ∉ M ∧ H dl = some (.lst vs) ∧ Rps K F vs ys ∧ lcGo f1 (es.drop j) S = some (r1, Sm) ∧ lc2Go f ds Sm = some (rs, S2) ∧ ys ++ (r1 ++ rs) = zs
theorem l2_it {J : It} {n : Nat} {G : Hp → Prop} {Y : Nat → Hp → V → Hp → Prop} (w : Walk J n G Y) {P0 : Hp → Prop} {Nx : Hp → Prop} {T : Hp → V → Hp → (Hp → Prop) → Prop} {H1 : Hp} (Pv : Nat → Hp → Prop) (h0 : Pv 0 H1) (hG : ∀ i H, i ≤ n → Pv i H → G H)
    (hs : ∀ i x H H', i < n → Pv i H → Y i H x H' → T H x H' (Pv (i + 1))) (hd : ∀ H, Pv n H → Nx H) :
    ∃ W : Nat → Nat → Hp → Prop, (∃ m, W 0 m H1) ∧ ∀ i m H, W i m H → (J.stop i H ∧ Nx H) ∨ (J.go i H ∧ ∃ N1 : Hp → Prop, (∀ H', N1 H' → ∃ m', m' < m ∧ W (i + 1) m' H') ∧ ∀ x H', J.yld i H x H' → T H x H' N1) := by
  refine ⟨fun i m H => m = n - i ∧ i ≤ n ∧ Pv i H, ⟨n, by simp, Nat.zero_le _, h0⟩, ?_⟩
  rintro i m H ⟨rfl, hi, p⟩
  have q := hG i H hi p
  by_cases hlt : i < n
  · exact .inr ⟨w.goes i H hlt q, Pv (i + 1), fun H' p' => ⟨n - (i + 1), by omega, rfl, hlt, p'⟩, fun x H' y => hs i x H H' hlt p (w.yields i H x H' hlt q y)⟩
  · have e : i = n := by omega
    subst e
    exact .inl ⟨w.stops H q, hd H p⟩
theorem drop_at {ds : List D} {n : Nat} {d : D} (hn : n < ds.length) (e : ds[n]? = some d) : ds.drop n = d :: ds.drop (n + 1) := by
  rw [List.drop_eq_getElem_cons hn]
  rw [List.getElem?_eq_getElem hn] at e
  rw [Option.some.inj e]
theorem r_lc2 (hc : X.calm = true) (hN : X.N.Nodup) {E : Ev} {elt : Ex} {tg tg1 : Tg} {it it1 : Itr} {cd cd1 : Exo} {own own1 : List Nat} {e t i t1 i1 : Expr} {ifs ifs1 : List Expr} {scope : Scope} {pos : Pos} {on : List (Str × Nat)} (hon : on.map (·.2) = own)
    (hi : PI X t i (tI X.w X.K fun sl S => evI E sl S it)) (ok : BlkOk X.N X.env.scope scope on)
    (hg : ∀ (s : Shared) (H : Hp) (C : Addr) (cl : List (Str × Addr)) (fp : List Addr), PG (X.blk s H scope (compEnvC scope cl C X.env) fp) t (tG X.w X.K tg))
    (ht : ∀ (s : Shared) (H : Hp) (C : Addr) (cl : List (Str × Addr)) (fp : List Addr), PTs (X.blk s H scope (compEnvC scope cl C X.env) fp) ifs (tT X.w X.K fun sl S => evC E sl S cd))
    (hi1 : ∀ (s : Shared) (H : Hp) (C : Addr) (cl : List (Str × Addr)) (fp : List Addr), PI (X.blk s H scope (compEnvC scope cl C X.env) fp) t1 i1 (tI X.w X.K fun sl S => evI E sl S it1))
    (hg1 : ∀ (s : Shared) (H : Hp) (C : Addr) (cl : List (Str × Addr)) (fp : List Addr), PG (X.blk s H scope (compEnvC scope cl C X.env) fp) t1 (tG X.w X.K tg1))
    (ht1 : ∀ (s : Shared) (H : Hp) (C : Addr) (cl : List (Str × Addr)) (fp : List Addr), PTs (X.blk s H scope (compEnvC scope cl C X.env) fp) ifs1 (tT X.w X.K fun sl S => evC E sl S cd1))
    (he : ∀ (s : Shared) (H : Hp) (C : Addr) (cl : List (Str × Addr)) (fp : List Addr), PE (X.blk s H scope (compEnvC scope cl C X.env) fp) e (tM X.w X.K fun sl S => evE E sl S elt))
    (hs : ∀ x, foldedSetIterable i X.env x = pure x) (hs1 : ∀ env x, foldedSetIterable i1 env x = pure x) (hown : ∀ j ∈ tg.ix, j ∈ own) (hown1 : ∀ j ∈ tg1.ix, j ∈ own1) (hsub : ∀ j ∈ own1, j ∈ own) :
    ∃ tl, PE X (.ListComp e [⟨t, i, ifs, 0⟩, ⟨t1, i1, ifs1, 0⟩] scope pos) tl ∧ (∀ (y : Str) (py : Pos) (j : Nat) (spos : Pos), X.N[j]? = some y → X.env.scope.names.lookup y = some .local → swapsWith (.ListComp e [⟨t, i, ifs, 0⟩, ⟨t1, i1, ifs1, 0⟩] scope pos) (some (.Name y py)) spos.line X.env = pure true →
      PS X (.Assign [.Name y py] (.ListComp e [⟨t, i, ifs, 0⟩, ⟨t1, i1, ifs1, 0⟩] scope pos) spos) (tAsg tl (gName j))) ∧ ∀ σ H Q, tM X.w X.K (fun sl S => evE E sl S (.lc2 elt tg it cd tg1 it1 cd1 own own1)) σ H Q → tl σ H Q := by
  refine ⟨_, pe_lc2 hc hN hi ok (by rw [hon]; exact hsub) hg ht hi1 hg1 ht1 he hs hs1, fun y py j spos h1 h2 h3 => ps_setLc2 hc hN h1 h2 h3 hi ok (by rw [hon]; exact hsub) hg ht hi1 hg1 ht1 he hs hs1, fun σ H Q hh => ?_⟩
  rw [hon]
  obtain ⟨F0, M0, H0, F, M, S, sl, r, S', st, e, kk⟩ := hh
  dsimp only at e
  unfold evE at e
  split at e
  · rename_i ds S1 e1
    split at e
    · rename_i zs S2 e2
      split at e
      · rename_i hzs
        cases e
        have e2 : lc2Go (l2Out E sl elt tg cd tg1 it1 cd1 own own1) ds S1 = some (zs, S') := e2
        rw [szL_eq] at hzs
        refine tI_then st e1 fun F1 M1 H1 J x1 st1 wk D hD => ?_
        have stN := st1.noOwn
        refine l2_it (P0 := fun _ => True) wk.1 (L2St X.w X.K F1 M1 H1 D (l2Out E sl elt tg cd tg1 it1 cd1 own own1) ds zs S') ?_ ?_ ?_ ?_
        · exact ⟨F1, M1, S1, [], [], zs, Xt.new st1.sub hD, st1.cls.new st1.sub hD, st1.sub.none hD, fun z => (st1.cls.mem_some z).2 hD, upd_same, .nil, e2, rfl⟩
        · rintro n H' _ ⟨F', M', S', vs, ys, rs, xx, _⟩
          exact xx.frz.trans xx.sub
        · rintro n v H' H'' hn ⟨F', M', S3, vs, ys, rs, xx, cl, fD, mD, hL, rr, go, fin⟩ yd
          obtain ⟨d, F'', ed, xa, rd, hcase⟩ := xt_cons (M := M') xx.frz xx.sub yd
          have cl2 : Cls X.K F'' M' H'' S3 := by
            rcases hcase with ⟨rfl, rfl⟩ | ⟨T, o, hT, rfl, rfl⟩
            · exact cl
            · exact cl.newF xx.sub hT
          have xx2 := xx.trans xa
          have st2 : Stt X.w X.K F0 M0 H0 F'' M' S3 (wipeS (noOwn sl) own) (wipe σ own) H'' := (stN.xt xx2 cl2).wipe own
          have hHD : H' D ≠ none := by rw [hL]; exact fun z => nomatch z
          have hL2 : H'' D = some (.lst vs) := xa.keep _ _ mD hL
          have fD2 : F'' D = none := xa.own _ fD hHD
          rw [drop_at hn ed] at go
          unfold lc2Go at go
          cases ea : asgT tg (.val d) (wipeS (noOwn sl) own) with
          | none => simp [l2Out, ea] at go
          | some sl1 =>
            have af1 : AllFree sl1 := (noOwn_free.wipe own).asg ea
            refine ⟨F0, M0, H0, F'', M', S3, wipeS (noOwn sl) own, .val d, sl1, st2, rfl, rsv_d rd, ea, fun σ2 hw st3 => ⟨(hw own hown).trans (wipe_wipe σ own), ?_⟩⟩
            cases ec : evC E sl1 S3 cd with
            | none => simp [l2Out, ea, ec] at go
            | some p =>
              obtain ⟨b, S4⟩ := p
              refine ⟨F0, M0, H0, F'', M', S3, sl1, b, S4, st3, ec, fun F4 M4 H4 x4 st4 => ?_⟩
              have hL4 : H4 D = some (.lst vs) := x4.keep _ _ mD hL2
              have hne2 : H'' D ≠ none := by rw [hL2]; exact fun z => nomatch z
              have fD4 : F4 D = none := x4.own _ fD2 hne2
              have mD4 : D ∉ M4 := fun z => mD (x4.mem z hne2)
              cases b with
              | false =>
                show (if (false = true) then _ else _)
                rw [if_neg Bool.false_ne_true]
                have : l2Out E sl elt tg cd tg1 it1 cd1 own own1 d S3 = some ([], S4) := by simp [l2Out, ea, ec]
                simp only [this] at go
                split at go
                · rename_i zs2 S5 go'
                  cases go
                  exact ⟨F4, M4, S4, vs, ys, _, xx2.trans x4, st4.cls, fD4, mD4, hL4, Rps.sub (xa.frz.trans x4.frz) rr, go', fin⟩
                · cases go
              | true =>
                show (if (true = true) then _ else _)
                rw [if_pos rfl]
                cases ei : evI E sl1 S4 it1 with
                | none => simp [l2Out, ea, ec, ei] at go
                | some q =>
                  obtain ⟨es, S5⟩ := q
                  have hout : l2Out E sl elt tg cd tg1 it1 cd1 own own1 d S3 = lcGo (l2In E sl1 elt tg1 cd1 own1) es S5 := by simp [l2Out, ea, ec, ei]
                  simp only [hout] at go
                  split at go
                  · rename_i r1 Sm go1
                    split at go
                    · rename_i rs2 S7 go2
                      cases go
                      refine tI_then st4 ei fun F5 M5 H5 J1 x5 st5 wk1 => ?_
                      have hne4 : H4 D ≠ none := by rw [hL4]; exact fun z => nomatch z
                      have hL5 : H5 D = some (.lst vs) := x5.keep _ _ mD4 hL4
                      have fD5 : F5 D = none := x5.own _ fD4 hne4
                      have mD5 : D ∉ M5 := fun z => mD4 (x5.mem z hne4)
                      have x15 := (xx2.trans x4).trans x5
                      refine l2_it (P0 := fun _ => True) wk1.1 (L2In X.w X.K F1 M1 H1 F5 M5 D (l2Out E sl elt tg cd tg1 it1 cd1 own own1) (l2In E sl1 elt tg1 cd1 own1) (ds.drop (n + 1)) es zs S') ?_ ?_ ?_ ?_
                      · exact ⟨F5, M5, S5, Sm, vs, ys, r1, rs2, x15, Sub.refl _, ⟨[], by simp⟩, st5.cls, fD5, mD5, hL5, Rps.sub ((xa.frz.trans x4.frz).trans x5.frz) rr, go1, go2, fin⟩
                      · rintro j Hj _ ⟨Fj, Mj, Sj, Sm', vj, yj, rj, rsj, xj, sj, _⟩
                        exact sj.trans xj.sub
                      · rintro j u Hj Hj' hj ⟨Fj, Mj, Sj, Sm', vj, yj, rj, rsj, xj, sj, mj, clj, fDj, mDj, hLj, rrj, goj, go2j, finj⟩ ydj
                        have ydj' : YD X.K F5 es j Hj u Hj' := ydj
                        obtain ⟨dj, Fk, edj, xk, rdj, hcj⟩ := xt_cons (M := Mj) sj xj.sub ydj'
                        have clk : Cls X.K Fk Mj Hj' Sj := by
                          rcases hcj with ⟨rfl, rfl⟩ | ⟨T, o, hT, rfl, rfl⟩
                          · exact clj
                          · exact clj.newF xj.sub hT
                        have xjk := xj.trans xk
                        have mjk : ∃ m, Mj = M5 ++ m := mj
                        have st6 : Stt X.w X.K F0 M0 H0 Fk Mj Sj sl1 σ2 Hj' := st5.move af1 (st1.base.trans xjk) (sj.trans xk.frz) mjk clk
                        have st7 := st6.wipe own1
                        have hnej : Hj D ≠ none := by rw [hLj]; exact fun z => nomatch z
                        have hLk : Hj' D = some (.lst vj) := xk.keep _ _ mDj hLj
                        have fDk : Fk D = none := xk.own _ fDj hnej
                        rw [drop_at hj edj] at goj
                        unfold lcGo at goj
                        cases eb : asgT tg1 (.val dj) (wipeS sl1 own1) with
                        | none => simp [l2In, eb] at goj
                        | some sl2 =>
                          refine ⟨F0, M0, H0, Fk, Mj, Sj, wipeS sl1 own1, .val dj, sl2, st7, rfl, rsv_d rdj, eb, fun σ3 hw3 st8 => ⟨(hw3 own1 hown1).trans (wipe_wipe σ2 own1), ?_⟩⟩
                          cases ed1 : evC E sl2 Sj cd1 with
                          | none => simp [l2In, eb, ed1] at goj
                          | some p =>
                            obtain ⟨b, S8⟩ := p
                            refine ⟨F0, M0, H0, Fk, Mj, Sj, sl2, b, S8, st8, ed1, fun F8 M8 H8 x8 st9 => ?_⟩
                            have hnek : Hj' D ≠ none := by rw [hLk]; exact fun z => nomatch z
                            have hL8 : H8 D = some (.lst vj) := x8.keep _ _ mDj hLk
                            have fD8 : F8 D = none := x8.own _ fDk hnek
                            have mD8 : D ∉ M8 := fun z => mDj (x8.mem z hnek)
                            have m8 : ∃ m, M8 = M5 ++ m := by
                              obtain ⟨a, ha⟩ := mjk
                              obtain ⟨b, hb⟩ := x8.cells
                              exact ⟨a ++ b, by rw [hb, ha, List.append_assoc]⟩
                            cases b with
                            | false =>
                              show (if (false = true) then _ else _)
                              rw [if_neg Bool.false_ne_true]
                              have hin : l2In E sl1 elt tg1 cd1 own1 dj Sj = some (none, S8) := by simp [l2In, eb, ed1]
                              simp only [hin] at goj
                              exact ⟨F8, M8, S8, Sm', vj, yj, rj, rsj, xjk.trans x8, (sj.trans xk.frz).trans x8.frz, m8, st9.cls, fD8, mD8, hL8, Rps.sub (xk.frz.trans x8.frz) rrj, goj, go2j, finj⟩
                            | true =>
                              show (if (true = true) then _ else _)
                              rw [if_pos rfl]
                              cases ee : dat? (fz? (evE E sl2 S8 elt)) with
                              | none => simp [l2In, eb, ed1, ee] at goj
                              | some q =>
                                obtain ⟨y, S9⟩ := q
                                have hin : l2In E sl1 elt tg1 cd1 own1 dj Sj = some (some y, S9) := by simp [l2In, eb, ed1, ee]
                                simp only [hin] at goj
                                split at goj
                                · rename_i ys' S10 go'
                                  cases goj
                                  refine tX_of (tX_then st9 (dat_inv ee) fun F9 M9 H9 v9 x9 st10 f9 q9 => ?_)
                                  have hne8 : H8 D ≠ none := by rw [hL8]; exact fun z => nomatch z
                                  have hL9 : H9 D = some (.lst vj) := x9.keep _ _ mD8 hL8
                                  have fD9 : F9 D = none := x9.own _ fD8 hne8
                                  have mD9 : D ∉ M9 := fun z => mD8 (x9.mem z hne8)
                                  have x19 := (xjk.trans x8).trans x9
                                  obtain ⟨x20, _⟩ := st1.over2 hD x19 st10.cls fD9 mD9 (.lst (vj ++ [v9]))
                                  have hlen : vj.length < sizeLine := by
                                    have l1 := rrj.length
                                    have l2 := congrArg List.length finj
                                    simp only [List.length_append, List.length_cons] at l2
                                    omega
                                  have m9 : ∃ m, M9 = M5 ++ m := by
                                    obtain ⟨a, ha⟩ := m8
                                    obtain ⟨b, hb⟩ := x9.cells
                                    exact ⟨a ++ b, by rw [hb, ha, List.append_assoc]⟩
                                  refine ⟨vj, hL9, hlen, F9, M9, S9, Sm', vj ++ [v9], yj ++ [y], ys', rsj, x20, ((sj.trans xk.frz).trans x8.frz).trans x9.frz, m9, ?_, fD9, mD9, upd_same, ?_, go', go2j, by rw [← finj]; simp⟩
                                  · exact st10.cls.mono (Sub.refl _) (fun a ha => (st10.cls.mem_some ha).1) fun a ha => upd_ne fun (z : a = D) => mD9 (by rw [← z]; exact ha)
                                  · exact (Rps.sub ((xk.frz.trans x8.frz).trans x9.frz) rrj).append (.cons (dat_rp q9) .nil)
                                · cases goj
                      · rintro Hj ⟨Fj, Mj, Sj, Sm', vj, yj, rj, rsj, xj, sj, mj, clj, fDj, mDj, hLj, rrj, goj, go2j, finj⟩
                        rw [List.drop_eq_nil_of_le (Nat.le_refl _)] at goj
                        cases goj
                        exact ⟨Fj, Mj, _, vj, yj, rsj, xj, clj, fDj, mDj, hLj, rrj, go2j, finj⟩
                    · cases go
                  · cases go
        · rintro H' ⟨F', M', S3, vs, ys, rs, xx, cl, fD, mD, hL, rr, go, fin⟩
          rw [List.drop_eq_nil_of_le (Nat.le_refl _)] at go
          cases go
          rw [List.append_nil] at fin
          subst fin
          refine kk F' M' H' _ (x1.trans xx) (st1.xt xx cl) ⟨D, rfl, ?_, fD, mD, vs, hL, ?_, rr⟩ ((newIn (o := .lst ys) hD).xt x1)
          · exact st1.base.none0 hD
          · rw [rr.length]; exact hzs
      · cases e
    · cases e
  · cases e
end
end DL

/-! The data layer: sorted(set(texts)). -/
namespace DL
open PySem PySem.Spec PyProof.Rows L2

/-! ### a set of texts -/
def keyS (e : Int × Value) : Str := match e.2 with | .str k _ => k | _ => ⟨#[]⟩
def GoodS (w : World) (e : Int × Value) : Prop := ∃ k tk, e.2 = Value.str k tk ∧ e.1 = hashStr w k
def SetS (w : World) (h : Heap) (a : Addr) (S : Str → Bool) (n : Nat) : Prop :=
  ∃ o es ep t, h.get? a = some o ∧ o.ExactSet ∧ o.data = .set es ep t ∧ (∀ e ∈ es.toList, GoodS w e) ∧ (es.toList.map keyS).Nodup ∧ (∀ k, S k = true ↔ k ∈ es.toList.map keyS) ∧
    es.size < scanBound ∧ t.fits es.size = true ∧ es.size = n ∧ Ris t.place.toList ∧ (w.params.followText "set-order" = true ∨ t.led = true)
section
variable {P : Program} {w : World} {h h' : Heap} {a : Addr} {S : Str → Bool} {n : Nat}
theorem is_s (k : Str) (u : Tok) : (PySem.strKind P w).is k (.str k u) = true := by
  show Value.isStrOf k (.str k u) = true
  simp [Value.isStrOf]
theorem SetS.at (R : SetS w h a S n) (k : ∀ o, h.get? a = some o → h'.get? a = some o) : SetS w h' a S n := by
  obtain ⟨o, es, ep, t, ho, r⟩ := R
  exact ⟨o, es, ep, t, k o ho, r⟩
theorem SetS.congr {S' : Str → Bool} (R : SetS w h a S n) (e : ∀ k, S' k = S k) : SetS w h a S' n := by
  have q : S' = S := funext e
  rw [q]; exact R
theorem goodS_elems {l : List (Int × Value)} (g : ∀ e ∈ l, GoodS w e) : ElemsOf (PySem.strKind P w) l := fun e he => by
  obtain ⟨k, tk, h1, h2⟩ := g e he
  exact ⟨⟨k, by rw [h1]; exact is_s k tk, h2⟩, by rw [h1] <;> rfl⟩
theorem goodS_is {e : Int × Value} (g : GoodS w e) (k : Str) : (PySem.strKind P w).is k e.2 = true ↔ keyS e = k := by
  obtain ⟨k0, tk, h1, _⟩ := g
  unfold keyS
  rw [h1]
  show Value.isStrOf k (.str k0 tk) = true ↔ k0 = k
  constructor
  · intro z
    exact (PySem.strKind P w).inj (.str k0 tk) k0 k (is_s k0 tk) z
  · rintro rfl
    exact is_s (P := P) (w := w) k0 tk
theorem goodS_mem {l : List (Int × Value)} (g : ∀ e ∈ l, GoodS w e) (k : Str) : k ∈ l.map keyS ↔ ∃ e ∈ l, (PySem.strKind P w).is k e.2 = true := by
  rw [List.mem_map]
  constructor
  · rintro ⟨e, he, q⟩
    exact ⟨e, he, (goodS_is (g e he) k).2 q⟩
  · rintro ⟨e, he, q⟩
    exact ⟨e, he, (goodS_is (g e he) k).1 q⟩
theorem setS_new_at {w : World} {h : Heap} {a : Addr} {ns : List Str} (ho : h.get? a = some { cls := .type "set", dict := none, data := .set #[] 0 (.fresh 0 0 (!w.params.followText "set-order")) }) : SetS w h a (fun j => decide (j ∈ ns.take 0)) 0 :=
  ⟨_, #[], 0, _, ho, ⟨rfl, rfl, rfl⟩, rfl, (fun e he => by simp at he), (by simp), (fun k => by simp), (by decide), (by rfl), rfl, List.Pairwise.nil, by
    show _ ∨ (!w.params.followText "set-order") = true
    cases w.params.followText "set-order"
    · exact .inr rfl
    · exact .inl rfl⟩
theorem strs_at {ns : List Str} {us : List Value} (h : Vals (ns.map V.str) us) : ∀ (i : Nat) (v : Value), us[i]? = some v → ∃ k t, ns[i]? = some k ∧ v = .str k t := by
  induction ns generalizing us with
  | nil => cases h; intro i v e; simp at e
  | cons n ns ih =>
    cases h with
    | cons r t =>
      intro i v e
      cases i with
      | zero =>
        obtain ⟨tk, rfl⟩ := r
        cases e
        exact ⟨n, tk, rfl, rfl⟩
      | succ i => exact ih t i v (by simpa using e)
end
section
variable {P : Program} {w : World} {A : Around} {E : Value → Shared → Prop} {s : Shared} {a : Addr} {S : Str → Bool} {n : Nat}
theorem setS_add_tail {g : Bool → Sem Unit} (hg : ∀ (b : Bool) (s₁ : Shared) (Q' : Unit → Shared → Prop), Q' () s₁ → wpAny (model P w) A (g b) Q' E s₁)
    {o : Obj} {es : Array (Int × Value)} {ep : Nat} {t : SetTable} (ho : s.heap.get? a = some o) (hex : o.ExactSet) (hd : o.data = .set es ep t)
    {es1 : Array (Int × Value)} {t2 : SetTable} {S' : Str → Bool} (g1 : ∀ e ∈ es1.toList, GoodS w e) (nd1 : (es1.toList.map keyS).Nodup) (m1 : ∀ k, S' k = true ↔ k ∈ es1.toList.map keyS)
    (hb1 : es1.size < scanBound) (hf2 : t2.fits es1.size = true) (hr : Ris t2.place.toList) (hl : w.params.followText "set-order" = true ∨ t2.led = true) {wasDummy : Bool} {R : Option Bool → Shared → Prop}
    (hR : ∀ h', Heap.SameBut a s.heap h' → SetS w h' a S' es1.size → R (some true) { s with heap := h' }) :
    wpAny (model P w) A (do
        storeSet a es1 t2
        if (!wasDummy && t2.tooFull) = true then do
            g (relayAll t2 es1 (SetTable.grown es1.size)).2.2
            storeSet a (relayAll t2 es1 (SetTable.grown es1.size)).1 (relayAll t2 es1 (SetTable.grown es1.size)).2.1
            pure (some true)
          else pure (some true)) R E s := by
  refine wpAny_bind (wpAny_storeSet_of ho hd ?_ (fits_of_scanBound hb1))
  have ho1 := store_at (es' := es1) (t' := t2) ho hd
  have sb1 := Heap.SameBut.update s.heap a (Obj.putSet es1 t2)
  split
  · have pm := relayAll_perm t2 es1 (SetTable.grown es1.size)
    have hf3 := relayAll_fits t2 es1 (SetTable.grown es1.size)
    have hr3 := relayAll_ris t2 es1 (SetTable.grown es1.size)
    have hl3 := relayAll_led t2 es1 (SetTable.grown es1.size)
    generalize relayAll t2 es1 (SetTable.grown es1.size) = Z at pm hf3 hr3 hl3 ⊢
    obtain ⟨es2, t3, gave⟩ := Z
    dsimp only at pm hf3 hr3 hl3 ⊢
    have hsz : es2.size = es1.size := by rw [← Array.length_toList, pm.length_eq, Array.length_toList]
    have hb2 : es2.size < scanBound := by rw [hsz]; exact hb1
    refine wpAny_bind (hg _ _ _ ?_)
    refine wpAny_bind (wpAny_storeSet_of ho1 rfl ?_ (fits_of_scanBound hb2))
    have ho2 := store_at (es' := es2) (t' := t3) ho1 rfl
    refine wpAny_pure (hR _ (sb1.trans (Heap.SameBut.update _ a _)) ?_)
    exact ⟨_, es2, _, t3, ho2, hex, rfl, fun e he => g1 e (pm.mem_iff.mp he), (pm.map keyS).nodup_iff.mpr nd1, fun k => (m1 k).trans (pm.map keyS).mem_iff.symm, hb2, hf3, hsz, hr3,
      hl.imp id fun z => by rw [hl3]; exact z⟩
  · exact wpAny_pure (hR _ sb1 ⟨_, es1, _, t2, ho1, hex, rfl, g1, nd1, m1, hb1, hf2, rfl, hr, hl⟩)

theorem setS_add_hashed {k : Str} {tk : Tok} {Q : Bool → Shared → Prop} (R : SetS w s.heap a S n) (room : n + 1 < scanBound)
    (hQ : ∀ h', Heap.SameBut a s.heap h' → SetS w h' a (fun j => S j || decide (j = k)) (if S k = true then n else n + 1) → Q (!S k) { s with heap := h' }) :
    wpAny (model P w) A (setAddHashed a (.str k tk) ((PySem.strKind P w).hash k)) Q E s := by
  obtain ⟨o, es, ep, t, ho, hex, hd, g, nd, hm, hb, hf, hn, hr, hl⟩ := R
  have hkey : (PySem.strKind P w).is k (.str k tk) = true := is_s k tk
  have hsc : (Value.str k tk).scannable = true := rfl
  have hel : ElemsOf (PySem.strKind P w) es.toList := goodS_elems g
  unfold setAddHashed setAddHashedIn
  refine wpAny_holding (wpAny_bind (wpAny_setState_of ho hd hf ?_))
  dsimp only
  rw [byScan_of hsc hb hel]
  simp only [↓reduceIte]
  unfold setAddByScan
  refine wpAny_bind ?_
  refine wpAny_bind (wpAny_rule ?_)
  refine wpAny_bind (wpAny_setScan_of hkey ho hd hf hel ?_)
  cases hfi : List.findIdx? (fun e => (PySem.strKind P w).is k e.2) es.toList with
  | some j =>
    dsimp only
    obtain ⟨hj, pj, _⟩ := List.findIdx?_eq_some_iff_getElem.mp hfi
    have hSk : S k = true := (hm k).2 ((goodS_mem (P := P) g k).2 ⟨es.toList[j], List.getElem_mem hj, pj⟩)
    refine wpAny_pure (wpAny_pure ?_)
    have q := hQ s.heap (Heap.SameBut.refl a s.heap) ⟨o, es, ep, t, ho, hex, hd, g, nd, fun i => by
      rw [Bool.or_eq_true, decide_eq_true_eq, ← hm i]
      exact ⟨fun z => z.elim id (fun e => e ▸ hSk), .inl⟩, hb, hf, by rw [if_pos hSk]; exact hn, hr, hl⟩
    rw [hSk] at q
    exact q
  | none =>
    dsimp only
    have hnk : k ∉ es.toList.map keyS := fun z => by
      obtain ⟨e, he, q⟩ := (goodS_mem (P := P) g k).1 z
      have c := List.findIdx?_eq_none_iff.mp hfi e he
      rw [q] at c
      cases c
    have hSk : S k = false := by
      cases q : S k with
      | false => rfl
      | true => exact absurd ((hm k).1 q) hnk
    have hgw : ∀ (b : Bool) {s₁ : Shared} {Q' : Unit → Shared → Prop}, Q' () s₁ → wpAny (model P w) A (match b with | true => rule "set.scan.the-table-gave-way" | false => pure ()) Q' E s₁ :=
      fun b s₁ Q' q => by cases b <;> first | exact wpAny_pure q | exact wpAny_rule q
    have pm := layNew_perm t es ((PySem.strKind P w).hash k) (.str k tk)
    have hf1 := layNew_fits t es ((PySem.strKind P w).hash k) (.str k tk)
    have hr1 := layNew_ris t es ((PySem.strKind P w).hash k) (.str k tk) hr
    have hl1 := layNew_led t es ((PySem.strKind P w).hash k) (.str k tk)
    generalize layNew t es ((PySem.strKind P w).hash k) (.str k tk) = Z at pm hf1 hr1 hl1 ⊢
    obtain ⟨es1, t1, wasDummy, gave⟩ := Z
    dsimp only at pm hf1 hr1 hl1 ⊢
    rw [Array.toList_push] at pm
    have pc : es1.toList.Perm (((PySem.strKind P w).hash k, Value.str k tk) :: es.toList) := pm.trans (List.perm_append_singleton _ _)
    have pk : (es1.toList.map keyS).Perm (k :: es.toList.map keyS) := pc.map keyS
    have g1 : ∀ e ∈ es1.toList, GoodS w e := fun e he => by
      rcases List.mem_cons.mp (pc.mem_iff.mp he) with z | z
      · rw [z]; exact ⟨k, tk, rfl, rfl⟩
      · exact g e z
    have nd1 : (es1.toList.map keyS).Nodup := pk.nodup_iff.mpr (List.nodup_cons.mpr ⟨hnk, nd⟩)
    have m1 : ∀ i, (S i || decide (i = k)) = true ↔ i ∈ es1.toList.map keyS := fun i => by
      rw [Bool.or_eq_true, decide_eq_true_eq, hm i, pk.mem_iff, List.mem_cons]
      exact Or.comm
    have hsz : es1.size = n + 1 := by rw [← Array.length_toList, pc.length_eq, List.length_cons, Array.length_toList, hn]
    have hb1 : es1.size < scanBound := by rw [hsz]; exact room
    have hled : w.params.followText "set-order" = true ∨ t1.led = true := hl.imp id fun z => by rw [hl1]; exact z
    have fin : ∀ h', Heap.SameBut a s.heap h' → SetS w h' a (fun j => S j || decide (j = k)) es1.size → Q true { s with heap := h' } := fun h' sb r => by
      have q := hQ h' sb
      rw [hSk] at q
      rw [hsz] at r
      exact q r
    refine wpAny_bind (hgw _ ?_)
    split
    · refine wpAny_bind ?_
      rw [hashByValue_scannable 8 hsc]
      refine wpAny_pure ?_
      refine setS_add_tail ?_ ho hex hd g1 nd1 m1 hb1 ?_ ?_ ?_ ?_
      · intro b s₁ Q' q; cases b <;> first | exact wpAny_pure q | exact wpAny_rule q
      · first | (split <;> first | exact hf1 | exact SetTable.fits_plain_off hf1) | exact hf1
      · first | (split <;> exact hr1) | exact hr1
      · first | (split <;> exact hled) | exact hled
      · intro h' sb r; dsimp only; exact wpAny_pure (fin h' sb r)
    · refine wpAny_bind (wpAny_pure ?_)
      simp only [↓reduceIte]
      refine setS_add_tail ?_ ho hex hd g1 nd1 m1 hb1 hf1 hr1 hled ?_
      · intro b s₁ Q' q; cases b <;> first | exact wpAny_pure q | exact wpAny_rule q
      · intro h' sb r; dsimp only; exact wpAny_pure (fin h' sb r)


theorem set_update_strs {I : Addr} {fp wr : List Addr} {G : Array GenState → Array GenState → Prop} {n : Nat} {Pv : Nat → Value → Prop} {St : Nat → Shared → Prop} {R : Result → Shared → Prop}
    (W : WalksS P w A.in1 I fp wr G n Pv St) (S : Addr) (hSf : S ∉ fp) (ns : List Str) (hn : n = ns.length) (hb : ns.length + 1 < scanBound) (hval : ∀ i v, Pv i v → ∃ k t, ns[i]? = some k ∧ v = .str k t) :
    ∀ (k i : Nat) (s : Shared), n - i = k → i ≤ n → St i s → (∃ c, c ≤ i ∧ SetS w s.heap S (fun j => decide (j ∈ ns.take i)) c) →
      (∀ s' c, Moved (S :: wr) G s s' → c ≤ n → SetS w s'.heap S (fun j => decide (j ∈ ns)) c → R (.ok (.ret .none)) s') →
      codeAny (model P w) A (.builtin "set.update.loop" ⟨[.ref S, .ref I], []⟩) R s := by
  have hSw : S ∉ wr := fun h => hSf (W.sub _ h)
  have hsub : ∀ b ∈ wr, b ∈ S :: wr := fun b hb => List.mem_cons_of_mem _ hb
  intro k
  induction k with
  | zero =>
    intro i s hk' hi hst ⟨c, hc, hS⟩ hR
    have hin : i = n := by omega
    subst hin
    refine codeAny_builtin F.entry_set_update_loop ?_
    rw [Around.under_plainId F.plain_set_update_loop _]
    show wpAny _ A.in1 (pyNext (.ref I) >>= _) _ _ s
    refine wpAny_bind (W.done s _ _ hst fun s' hm => ?_)
    show wpAny _ A.in1 (ret Value.none) _ _ s'
    have e : ns.take i = ns := List.take_of_length_le (by omega)
    rw [e] at hS
    exact wpAny_pure (hR s' c (hm.mono hsub) hc (hS.at fun o e => hm.heap S o hSw e))
  | succ k ih =>
    intro i s hk' hi hst ⟨c, hc, hS⟩ hR
    have hlt : i < n := by omega
    refine codeAny_builtin F.entry_set_update_loop ?_
    rw [Around.under_plainId F.plain_set_update_loop _]
    show wpAny _ A.in1 (pyNext (.ref I) >>= _) _ _ s
    refine wpAny_bind (W.item i s _ _ hlt hst fun v s' hP hst' hm => ?_)
    obtain ⟨z, t, hz, rfl⟩ := hval i v hP
    have hS' : SetS w s'.heap S (fun j => decide (j ∈ ns.take i)) c := hS.at fun o e => hm.heap S o hSw e
    show wpAny _ A.in1 (holding [Value.str z t] (setAdd S (.str z t)) >>= _) _ _ s'
    refine wpAny_bind (wpAny_holding ?_)
    unfold setAdd
    refine wpAny_holding ?_
    refine wpAny_bind ((PySem.strKind P w).pyHash (k := z) (is_s _ _) ?_)
    refine setS_add_hashed (s := { s' with toks := s'.toks + 1 }) hS' (by omega) fun h' hsb hS2 => ?_
    have hS3 : SetS w h' S (fun j => decide (j ∈ ns.take (i + 1))) (if decide (z ∈ ns.take i) = true then c else c + 1) := hS2.congr fun j => by
      rw [List.take_add_one, hz]
      simp [List.mem_append]
    have hc3 : (if decide (z ∈ ns.take i) = true then c else c + 1) ≤ i + 1 := by
      split <;> omega
    refine wpAny_pure ⟨plainId_quiet F.plain_set_update_loop _, ih (i + 1) _ (by omega) hlt (W.frame _ s' _ _ hst' (Nat.le_succ _) fun b hb o e => ?_) ⟨_, hc3, hS3⟩ fun s'' c2 hm'' hc'' hS'' => ?_⟩
    · rw [hsb.2 b (fun h : b = S => hSf (by rw [← h]; exact hb))]; exact e
    · refine hR s'' c2 (Moved.trans W.gtrans ((hm.mono hsub).then_heap (Nat.le_succ _) fun b o hb e => ?_) hm'') hc'' hS''
      rw [hsb.2 b (fun h : b = S => hb (by rw [h]; exact List.mem_cons_self))]; exact e


theorem call_set_strs {l : Addr} {items : Array Value} (ns : List Str) {Q : Value → Shared → Prop} (hh : A.handled = none) (hl : s.heap.IsList l items) (hit : Vals (ns.map V.str) items.toList) (hb : ns.length + 1 < scanBound)
    (h : ∀ (h' : Heap) (tk c : Nat), SetS w h' s.heap.objs.size (fun j => decide (j ∈ ns)) c → c ≤ ns.length → (∀ b o, s.heap.get? b = some o → h'.get? b = some o) → Q (.ref s.heap.objs.size) { s with heap := h', toks := tk }) :
    wpAny (model P w) A (call (.type "set") [.ref l]) Q E s := by
  have hisz : items.size = ns.length := by
    have q := hit.length
    rw [List.length_map, Array.length_toList] at q
    exact q.symm
  obtain ⟨c, tl, hmro⟩ := F.called_set.mro
  have hmade := F.called_set.made
  have hsub := F.called_set.sub
  refine wpAny_call (codeAny_of_tree ?_)
  show wpAny _ _ (callAny (.type "set") _) _ _ _
  refine wpAny_pure ⟨Code.quiet_builtin _ (by decide +kernel), codeAny_builtin F.entry_type_call ?_⟩
  rw [Around.under_plain (weight_type_call_type "set" [.ref l] []) rfl]
  have h1 := F.called_set.notType
  have h2 := F.called_set.canCreate
  have hct := F.typeCall_set_1 (.ref l)
  repeat (any_goals (first | assumption | wp_step))

  refine codeAny_mono (code_set_led1 (.ref l) (E := E) (Q₁ := fun obj s₁ => obj = .ref s.heap.objs.size ∧ s₁ = { s with heap := s.heap.push { cls := .type "set", dict := none, data := .set #[] 0 (.fresh 0 0 (!w.params.followText "set-order")) } }) ⟨rfl, rfl⟩) fun r s₁ hr => ?_
  cases r with
  | error e => exact hr
  | ok fl =>
    cases fl with
    | ret obj =>
      obtain ⟨rfl, rfl⟩ := hr
      have hS : (s.heap.push { cls := .type "set", dict := none, data := .set #[] 0 (.fresh 0 0 (!w.params.followText "set-order")) }).get? s.heap.objs.size = some { cls := .type "set", dict := none, data := .set #[] 0 (.fresh 0 0 (!w.params.followText "set-order")) } := Heap.get?_push_size _ rfl
      have hT : Shared.TypeIs { s with heap := s.heap.push { cls := .type "set", dict := none, data := .set #[] 0 (.fresh 0 0 (!w.params.followText "set-order")) } } (.ref s.heap.objs.size) "set" := ⟨_, hS, rfl⟩
      have hli := F.called_set.init.lookup
      have hbi := F.called_set.init.bind (.ref s.heap.objs.size)
      repeat (any_goals (first | assumption | wp_step))

      refine codeAny_mono (codeAny_call_builtin (R := wants (fun r s₂ => r = .none ∧ ∃ h' tk c, s₂ = { s with heap := h', toks := tk } ∧ SetS w h' s.heap.objs.size (fun j => decide (j ∈ ns)) c ∧ c ≤ ns.length ∧
          (∀ b o, s.heap.get? b = some o → h'.get? b = some o)) E) F.called_set.init.plain F.entry_set_init (check_set_init_1 hT ?_)) fun r₂ s₂ hr₂ => ?_
      · obtain ⟨ol, hol, hcl, nl, hdl⟩ := hl
        obtain ⟨ocls, odict, odata, oslots⟩ := ol
        simp only at hcl hdl
        subst hcl; subst hdl
        have hol' : (s.heap.push { cls := .type "set", dict := none, data := .set #[] 0 (.fresh 0 0 (!w.params.followText "set-order")) }).get? l = some { cls := .type "list", dict := odict, data := .seq items nl, slots := oslots } := Heap.get?_push_of_some _ hol
        have hsls := F.sub_list_set
        have hslf := F.sub_list_frozenset
        have hne : (Value.type "list" == Value.type "dict") = false := by decide
        have hl1 : (s.heap.push { cls := .type "set", dict := none, data := .set #[] 0 (.fresh 0 0 (!w.params.followText "set-order")) }).IsList l items := ⟨_, hol', rfl, nl, rfl⟩
        unfold Builtin.«set.__init__» noKeywords Builtin.Frozenset.updateFrom
        generalize hPI : pyIter = PI
        wp_walk
        subst hPI

        refine wpAny_pyIter_list hl1 ?_
        refine wpAny_bind (wpAny_runValue ?_)
        have hlS : l < s.heap.objs.size := Heap.lt_size hol
        have hh3 : A.in1.in1.in1.handled = none := by simp [hh]
        have hz1 : (s.heap.push { cls := .type "set", dict := none, data := .set #[] 0 (.fresh 0 0 (!w.params.followText "set-order")) }).objs.size = s.heap.objs.size + 1 := Heap.size_push ..
        have hneI : l ≠ (s.heap.push { cls := .type "set", dict := none, data := .set #[] 0 (.fresh 0 0 (!w.params.followText "set-order")) }).objs.size := by
          rw [Heap.size_push]; exact Nat.ne_of_lt (Nat.lt_succ_of_lt hlS)
        have hSf : s.heap.objs.size ∉ [(s.heap.push { cls := .type "set", dict := none, data := .set #[] 0 (.fresh 0 0 (!w.params.followText "set-order")) }).objs.size, l] := by
          rw [Heap.size_push]; simp only [List.mem_cons, List.mem_singleton, List.not_mem_nil, or_false, not_or]
          exact ⟨Nat.ne_of_lt (Nat.lt_succ_self _), Nat.ne_of_gt hlS⟩
        have hval : ∀ (i : Nat) (v : Value), items[i]? = some v → ∃ k t, ns[i]? = some k ∧ v = .str k t := fun i v hv => by
          exact strs_at hit i v (by rw [Array.getElem?_toList]; exact hv)
        refine set_update_strs ((Walks.list hh3 _ l hneI items).toS) s.heap.objs.size
          hSf ns hisz hb hval (items.size - 0) 0 _ (by omega) (Nat.zero_le _)
          ⟨⟨_, Heap.get?_push_size _ rfl, rfl, rfl⟩, (hl1.push _)⟩ ?hS0 ?hR
        case hS0 =>
          have hget : ((s.heap.push { cls := .type "set", dict := none, data := .set #[] 0 (.fresh 0 0 (!w.params.followText "set-order")) }).push { cls := .type "list_iterator", data := .fields #[.ref l, .int 0 0] }).get? s.heap.objs.size
              = some { cls := .type "set", dict := none, data := .set #[] 0 (.fresh 0 0 (!w.params.followText "set-order")) } := Heap.get?_push_of_some _ hS
          exact ⟨0, Nat.le_refl 0, setS_new_at hget⟩
        case hR =>
          intro s' c' hm hc' hS'
          obtain ⟨h', g2, d', tk', os'⟩ := s'
          have eg : g2 = s.gens := hm.gens
          have ed : d' = s.drawn := hm.drawn
          have eo : os' = s.os := hm.os
          subst eg; subst ed; subst eo
          show wpAny _ _ _ _ _ _
          refine wpAny_pure ?_
          show wpAny _ _ (ret Value.none) _ _ _
          rw [hisz] at hc'
          refine wpAny_pure ⟨rfl, h', tk', c', rfl, hS', hc', fun b o e => ?_⟩
          have hb0 : b < s.heap.objs.size := Heap.lt_size e
          have hb1 : b ≠ s.heap.objs.size := Nat.ne_of_lt hb0
          have hb2 : b ≠ (s.heap.push { cls := .type "set", dict := none, data := .set #[] 0 (.fresh 0 0 (!w.params.followText "set-order")) }).objs.size := by
            rw [Heap.size_push]; exact Nat.ne_of_lt (Nat.lt_succ_of_lt hb0)
          exact hm.heap b o (by simp only [List.mem_cons, List.mem_singleton, List.not_mem_nil, or_false, not_or]; exact ⟨hb1, hb2⟩) (Heap.get?_push_of_some _ (Heap.get?_push_of_some _ e))

      · cases r₂ with
        | error e => exact hr₂
        | ok fl₂ =>
          cases fl₂ with
          | ret r =>
            obtain ⟨rfl, h', tk, c', rfl, hS', hc', hk'⟩ := hr₂
            repeat (any_goals (first | assumption | wp_step))
            exact h _ _ _ hS' hc' hk'
          | _ => exact hr₂.elim
    | _ => exact hr.elim

end
end DL

/-! The data layer: sorted(set(texts)), min of whole numbers. -/
namespace DL
open PySem PySem.Spec PyProof.Rows L2
theorem mem_uniqS {k : Str} : ∀ {l : List Str}, k ∈ uniqS l ↔ k ∈ l
  | [] => Iff.rfl
  | x :: r => by
    unfold uniqS
    split
    · rename_i h
      rw [mem_uniqS, List.mem_cons]
      exact ⟨.inr, fun z => z.elim (fun e => e ▸ h) id⟩
    · rw [List.mem_cons, List.mem_cons, mem_uniqS]
theorem nodup_uniqS : ∀ (l : List Str), (uniqS l).Nodup
  | [] => List.nodup_nil
  | x :: r => by
    unfold uniqS
    split
    · exact nodup_uniqS r
    · rename_i h
      exact List.nodup_cons.mpr ⟨fun z => h (mem_uniqS.mp z), nodup_uniqS r⟩
theorem len_uniqS : ∀ (l : List Str), (uniqS l).length ≤ l.length
  | [] => Nat.le_refl _
  | x :: r => by
    unfold uniqS
    have := len_uniqS r
    split
    · exact Nat.le_succ_of_le this
    · simpa using this
def leZ (a b : Str) : Bool := decide (a.cps.toList ≤ b.cps.toList)
theorem sortD_strsZ (xs : List Str) : sortD (xs.map PyData.str) = (xs.mergeSort leZ).map PyData.str := by
  have e : PySem.W.dataLe false (fun b : Str => PyData.str b) = leZ := (PySem.W.dataLe_str (fun b : Str => b))
  unfold sortD
  rw [List.map_mergeSort]
  intro a _ b _
  have := congrFun (congrFun e a) b
  exact this.symm
theorem leZ_anti {a b : Str} (h1 : leZ a b = true) (h2 : leZ b a = true) : a = b := by
  have q := List.le_antisymm (of_decide_eq_true h1) (of_decide_eq_true h2)
  cases a; cases b
  simp only [Str.mk.injEq]
  exact Array.toList_inj.mp q
theorem sortD_perm {xs ys : List Str} (p : xs.Perm ys) : sortD (xs.map PyData.str) = sortD (ys.map PyData.str) := by
  rw [sortD_strsZ, sortD_strsZ]
  have tr : ∀ a b c : Str, leZ a b = true → leZ b c = true → leZ a c = true := fun a b c h1 h2 => decide_eq_true (List.le_trans (of_decide_eq_true h1) (of_decide_eq_true h2))
  have to : ∀ a b : Str, (leZ a b || leZ b a) = true := fun a b => by
    rcases List.le_total a.cps.toList b.cps.toList with h | h
    · rw [show leZ a b = true from decide_eq_true h]; rfl
    · rw [show leZ b a = true from decide_eq_true h, Bool.or_true]
  have e : xs.mergeSort leZ = ys.mergeSort leZ := List.Perm.eq_of_pairwise (le := fun a b => leZ a b = true) (fun a b _ _ h1 h2 => leZ_anti h1 h2) (List.pairwise_mergeSort tr to xs) (List.pairwise_mergeSort tr to ys)
    ((List.mergeSort_perm xs leZ).trans (p.trans (List.mergeSort_perm ys leZ).symm))
  rw [e]
theorem sortOk_strsZ (xs : List Str) : sortOk (xs.map PyData.str) = true := by
  unfold sortOk
  rw [Bool.and_eq_true]
  constructor
  · rw [List.all_eq_true]
    intro a ha
    obtain ⟨x, _, rfl⟩ := List.mem_map.mp ha
    rw [Bool.and_eq_true]
    refine ⟨decide_eq_true (by simp [PyData.depth]), ?_⟩
    rw [List.all_eq_true]
    intro b hb
    obtain ⟨y, _, rfl⟩ := List.mem_map.mp hb
    simp [PySem.W.alike]
  · rw [Bool.or_eq_true]
    right
    rw [List.all_eq_true]
    intro a ha
    obtain ⟨x, _, rfl⟩ := List.mem_map.mp ha
    rfl
section
variable {X : Cx} {pins : List (Addr × Obj)} {s : Shared} {τ : L2.St} {F0 H0 F H : Hp} {M0 M : List Addr} {S : Store} {sl : Slots} {σ : L2.St}
theorem rps_strs {ks : List Str} {ds : List D} {xs : List Str} (r : Rps X.K F (xs.map V.str) ds) (h : ∀ k ∈ ks, k ∈ xs) : Rps X.K F (ks.map V.str) (ks.map PyData.str) := by
  have one : ∀ k ∈ xs, Rp X.K F (.str k) (.str k) := by
    clear h
    intro k hk
    induction xs generalizing ds with
    | nil => cases hk
    | cons x xs ih =>
      cases r with
      | cons p q =>
        rcases List.mem_cons.mp hk with e | hk
        · subst e
          cases p with
          | str a b => exact .str a b
        · exact ih q hk
  clear r
  induction ks with
  | nil => exact .nil
  | cons k ks ih => exact .cons (one k (h k List.mem_cons_self)) (ih fun j hj => h j (List.mem_cons_of_mem _ hj))
theorem vals_strs : ∀ {us : List Value} {w : World}, (∀ u ∈ us, ∃ k t, u = Value.str k t) → ∃ ks : List Str, Vals (ks.map V.str) us ∧ us.map (fun v => keyS (0, v)) = ks
  | [], _, _ => ⟨[], .nil, rfl⟩
  | u :: us, w, h => by
    obtain ⟨k, t, rfl⟩ := h u List.mem_cons_self
    obtain ⟨ks, h1, h2⟩ := vals_strs (w := w) fun v hv => h v (List.mem_cons_of_mem _ hv)
    exact ⟨k :: ks, .cons ⟨t, rfl⟩ h1, by rw [List.map_cons, h2]; rfl⟩
theorem cr_sset (hu : X.A.units + 100 < cLine) (hc : X.calm = true) {a : Addr} {p : Str → Bool} {n : Nat} {xs : List Str} {ds : List D} (I : L2.Inv X pins τ H s) (st : Stt X.w X.K F0 M0 H0 F M S sl σ H) (R : SetS X.w s.heap a p n) (hp : ∀ k, p k = decide (k ∈ xs)) (rr : Rps X.K F (xs.map V.str) ds) (hz : n ≤ 1000) {Q : VK}
    (k : ∀ F' H' v, Xt F M H F' M H' → Stt X.w X.K F0 M0 H0 F' M S sl σ H' → RRV X.w X.K H0 F' M H' v (.new (.lst (sortD ((uniqS xs).map .str)))) → NewIn H v (.new (.lst (sortD ((uniqS xs).map .str)))) → Q v H') : wpAny (model X.prog X.w) X.A (call (.builtin "sorted") [.ref a]) (EP X pins τ Q) X.xe s := by
  obtain ⟨o, es, ep, t, ho, hex, hd, g, nd, hm, hb, hf, hn, hr, hl⟩ := R
  refine Calls.call_function_entry PyProof.Rows.kind_sorted PyProof.Rows.plain_sorted PyProof.Rows.entry_sorted (PyProof.Rows.args_sorted1 _) ?_
  unfold Builtin.«sorted»
  refine wpAny_bind (m := checkCount "sorted" 1 1 _) (wpAny_pure ?_)
  refine wpAny_bind (collect_set (A := X.A.in1) (I.ok.hd hc) ⟨o, ho, hex.1, hd⟩ hf hb hr hl fun s1 vs k1 hz1 g1 o1 pm => ?_)
  have hvl : vs.length = n := by rw [pm.length_eq, List.length_map, Array.length_toList]; exact hn
  have I1 : L2.Inv X pins τ H s1 := I.call' (ch := []) o1 (Un.kept k1) (I.hok.kept k1) (by rw [g1]; exact I.bare) (fun _ z => nomatch z)
  obtain ⟨ks, hV, hks⟩ := vals_strs (w := X.w) (us := vs) fun v hv => by
    obtain ⟨e, he, q⟩ := List.mem_map.mp (pm.mem_iff.mp hv)
    obtain ⟨k, tk, h1, _⟩ := g e he
    exact ⟨k, tk, by rw [← q]; exact h1⟩
  have pk : ks.Perm (es.toList.map keyS) := by
    have q := pm.map (fun v => keyS (0, v))
    rw [hks, List.map_map] at q
    exact q
  have pu : ks.Perm (uniqS xs) := (List.perm_ext_iff_of_nodup (pk.nodup_iff.mpr nd) (nodup_uniqS xs)).mpr fun j => by
    rw [mem_uniqS, pk.mem_iff, ← hm j, hp j, decide_eq_true_eq]
  have r1 : Rps X.K F (ks.map V.str) (ks.map PyData.str) := rps_strs rr fun j hj => mem_uniqS.mp (pu.mem_iff.mp hj)
  have hl2 : (ks.map PyData.str).length ≤ sizeLine := by
    rw [List.length_map]
    have e := hV.length
    rw [List.length_map] at e
    rw [e, hvl, sizeLine_eq]
    omega
  refine wpAny_bind (wpAny_newList ?_ (by rw [hvl, sizeLine_eq]; omega))
  refine wpAny_bind (wpAny_holding (wpAny_mono (sort_pushed (s := s1) (h' := s1.heap) (tk := s1.toks) (A := X.A.in1) (by show X.A.units + 1 + 70 < cLine; omega) I1 st hV r1 hl2 (sortOk_strsZ ks) (Q := Q) fun F' H' v x3 st3 r3 n3 => ?_) (fun _ _ q => ?_) fun _ _ q => q))
  · rw [sortD_perm pu] at r3 n3
    exact k F' H' v x3 st3 r3 n3
  · exact wpAny_pure ⟨_, rfl, q⟩
end
section
variable {X : Cx} {G : Pg} {E : Ev} {k : Nat} {c : Cn}
theorem r_sset (T : Ctx X G E k) (C : CnOk X c) {a : Ex} {x : Expr} {p1 p2 p3 pos : Pos} (h1 : glB c.sc "sorted" = true) (h2 : glB c.sc "set" = true) (hn : notStar x = true) (ha : PE X x (tM X.w X.K fun sl S => evE E sl S a)) :
    PE X (.Call (.Name "sorted" p1) [.Call (.Name "set" p2) [x] [] p3] [] pos) (tM X.w X.K fun sl S => evE E sl S (.sset a)) := by
  have hu := T.units
  obtain ⟨gl, db⟩ := C.gl h1
  obtain ⟨gl2, db2⟩ := C.gl h2
  have na : starEach [x] X.env = (false, eval x X.env) :: starEach [] X.env := star_cons hn
  refine ⟨fun pins s σ H Q I hh => ?_⟩
  obtain ⟨F0, M0, H0, F, M, S, sl, r, S', st, e, kk⟩ := hh
  dsimp only at e
  unfold evE at e
  split at e
  · rename_i ro S1 e1
    obtain ⟨r', e4, e5⟩ := Option.map_eq_some_iff.mp e
    cases e5
    unfold ssetS at e4
    split at e4
    · rename_i ds hk
      split at e4
      · rename_i xs hx
        split at e4
        · rename_i hz
          cases e4
          refine Call_ (ld_blt I gl (mg_blt T (by decide +kernel)) (show bootBuiltins "sorted" = some (.builtin "sorted") from by decide +kernel) ?_)
          refine PyProof.Rows.callWith_builtin1 (PyProof.Rows.args_cons ?_ rfl) rfl rfl
          refine Call_ (ld_blt I gl2 (mg_blt T (by decide +kernel)) (show bootBuiltins "set" = some (.type "set") from by decide +kernel) ?_)
          refine PyProof.Rows.callWith_type1 (PyProof.Rows.args_cons (thn (ha.run pins s σ H (fun v H1 => ∃ F1 M1, Xt F M H F1 M1 H1 ∧ Stt X.w X.K F0 M0 H0 F1 M1 S' sl σ H1 ∧ RRV X.w X.K H0 F1 M1 H1 v ro) I (tM_then st e1 fun F1 M1 H1 v1 x1 st1 r1 n1 => ⟨F1, M1, x1, st1, r1⟩)) fun u s1 ⟨vo, H1, I1, ru, F1, M1, x1, st1, r1⟩ => PyProof.Rows.args_nil ?_) na) na rfl
          obtain ⟨p, ys, rfl, hp, zz, rr⟩ := toL_rep st1.sub r1 hk
          cases ru
          obtain ⟨its, rv, pl, hz2⟩ := I1.list (SqL.of hp)
          obtain ⟨e6, e7⟩ := strs_rep rr hx
          subst e6
          refine call_set_strs (ns := xs) (I1.ok.hd T.calm) pl.isList (by simpa using rv) (by unfold scanBound; omega) fun h' tk c R hcn hk' => ?_
          refine PyProof.Rows.args_nil ?_
          exact cr_sset (by omega) T.calm (I1.kept (t' := tk) hk') st1 R (fun _ => rfl) rr (Nat.le_trans hcn hz) fun F' H' v x2 st2 r2 n2 => kk F' M1 H' v (x1.trans x2) st2 r2 (n2.xt x1)
        · cases e4
      · cases e4
    · cases e4
  · cases e
theorem foldl_min : ∀ (is : List Int) (i : Int), is.foldl (fun m x => if x < m then x else m) i ∈ i :: is ∧ ∀ y ∈ i :: is, is.foldl (fun m x => if x < m then x else m) i ≤ y
  | [], i => ⟨List.mem_singleton.mpr rfl, fun y hy => by rw [List.mem_singleton.mp hy]; exact Int.le_refl _⟩
  | j :: is, i => by
    rw [List.foldl_cons]
    obtain ⟨h1, h2⟩ := foldl_min is (if j < i then j else i)
    generalize is.foldl (fun m x => if x < m then x else m) (if j < i then j else i) = m at h1 h2
    have hm := h2 _ List.mem_cons_self
    constructor
    · rcases List.mem_cons.mp h1 with e | h
      · rw [e]
        split
        · exact List.mem_cons_of_mem _ List.mem_cons_self
        · exact List.mem_cons_self
      · exact List.mem_cons_of_mem _ (List.mem_cons_of_mem _ h)
    · intro y hy
      rcases List.mem_cons.mp hy with e | hy
      · subst e
        split at hm <;> omega
      · rcases List.mem_cons.mp hy with e | hy
        · subst e
          split at hm <;> omega
        · exact h2 y (List.mem_cons_of_mem _ hy)
theorem r_min1 (T : Ctx X G E k) (C : CnOk X c) {a : Ex} {x : Expr} {p1 pos : Pos} (h1 : glB c.sc "min" = true) (hn : notStar x = true) (ha : PE X x (tM X.w X.K fun sl S => evE E sl S a)) :
    PE X (.Call (.Name "min" p1) [x] [] pos) (tM X.w X.K fun sl S => evE E sl S (.min1 a)) := by
  obtain ⟨gl, db⟩ := C.gl h1
  refine PE.imp (pe_callB (cr_min T.calm) gl (mg_blt T (by decide +kernel)) (by decide +kernel) (pa_cons ha pa_nil (star_cons hn)) (by decide +kernel) (by decide +kernel) (star_cons hn) (star_plain fun b hb => by simp at hb)) fun σ H Q hh => ?_
  obtain ⟨F0, M0, H0, F, M, S, sl, r, S', st, e, kk⟩ := hh
  dsimp only at e
  unfold evE at e
  split at e
  · rename_i ro S1 e1
    obtain ⟨r', e4, e5⟩ := Option.map_eq_some_iff.mp e
    cases e5
    unfold min1S at e4
    split at e4
    · rename_i ds hk
      split at e4
      · rename_i i is hx
        refine tM_then st e1 fun F1 M1 H1 v1 x1 st1 r1 n1 => ?_
        obtain ⟨p, ys, rfl, hp, zz, rr⟩ := toL_rep st1.sub r1 hk
        have e6 := ints_rep rr hx
        subst e6
        refine ⟨p, i :: is, rfl, SqL.of hp, Nat.succ_pos _, fun m hm hle => ?_⟩
        obtain ⟨f1, f2⟩ := foldl_min is i
        have em : m = is.foldl (fun m x => if x < m then x else m) i := Int.le_antisymm (hle _ f1) (f2 _ hm)
        subst em
        cases e4
        exact kk F1 M1 H1 _ x1 st1 (RRV.int_ _) trivial
      · cases e4
    · cases e4
  · cases e
end
end DL

/-! The data layer, part 13: expressions as a whole. -/
namespace DL
open PySem PySem.Spec PyProof.Rows L2

/-- what holds of an expression -/
structure SOK (X : Cx) (E : Ev) (e : Ex) (a : Expr) : Prop where
  pe : PE X a (tM X.w X.K fun sl S => evE E sl S e)
  pt : notIf a = true → PT X a (tT X.w X.K fun sl S => bool? (evE E sl S e))
  pw : ∀ op vs pos, a = .BoolOp op vs pos → PW X a (tT X.w X.K fun sl S => bool? (evE E sl S e))
theorem SOK.val {X : Cx} {E : Ev} {e : Ex} {a : Expr} (pe : PE X a (tM X.w X.K fun sl S => evE E sl S e)) (h : plainT a = true) : SOK X E e a :=
  ⟨pe, fun _ => r_tval pe h, fun op vs pos z => by subst z; cases h⟩
theorem SOK.noif {X : Cx} {E : Ev} {e : Ex} {a : Expr} (pe : PE X a (tM X.w X.K fun sl S => evE E sl S e)) (h : notIf a = false) (hb : ∀ op vs pos, a ≠ .BoolOp op vs pos) : SOK X E e a :=
  ⟨pe, fun z => (by rw [h] at z; cases z), fun op vs pos z => absurd z (hb _ _ _)⟩
theorem SOK.test {X : Cx} {E : Ev} {e : Ex} {a : Expr} (pe : PE X a (tM X.w X.K fun sl S => evE E sl S e)) (pt : PT X a (tT X.w X.K fun sl S => bool? (evE E sl S e))) (hb : ∀ op vs pos, a ≠ .BoolOp op vs pos) : SOK X E e a :=
  ⟨pe, fun _ => pt, fun op vs pos z => absurd z (hb _ _ _)⟩

section
variable {G : Pg} {E : Ev} {k : Nat}
theorem tM_no {w : World} {K : Frg} {m : Slots → Store → Option (RV × Store)} {σ : L2.St} {H : Hp} {Q : VK} (h : ∀ sl S, m sl S = none) (hh : tM w K m σ H Q) : False := by
  obtain ⟨F0, M0, H0, F, M, S, sl, r, S', st, e, kk⟩ := hh
  rw [h] at e
  cases e
theorem r_me {X : Cx} {c : Cn} (T : Ctx X G E k) (C : CnOk X c) {m : Me} {o : Ex} {es : Exs} {x : Expr} {nm : Str} {xs : List Expr} {apos pos : Pos} (ho : PE X x (tM X.w X.K fun sl S => evE E sl S o)) (h : PA X xs (tAs X.w X.K fun sl S => evEs E sl S es)) (hc : chEs G c es xs = true)
    (hx : chE G c o x = true) (hl : apos.endLine = pos.line) (hn : nm = m.name) (hp : plainO x = true) :
    PE X (.Call (.Attribute x nm apos) xs [] pos) (tM X.w X.K fun sl S => evE E sl S (.me m o es)) := by
  have no : (∀ r rs, meS m r rs = none) → PE X (.Call (.Attribute x nm apos) xs [] pos) (tM X.w X.K fun sl S => evE E sl S (.me m o es)) := fun hz => pe_never fun σ H Q hh => tM_no (fun sl S => by
    conv => lhs; unfold evE
    split
    · split
      · rw [hz]; rfl
      · rfl
    · rfl) hh
  cases m with
  | upper =>
    subst hn
    cases xs with
    | nil =>
      cases chEs_nil hc
      refine PE.imp (pe_bm0 PySem.F.plainAttrs_str PySem.F.slot_str_upper PySem.F.type_str_upper mt_upperD ho (by cases x <;> first | rfl | cases hp) (by rw [hl]; exact beq_self_eq_true _)) fun σ H Q hh => ?_
      obtain ⟨F0, M0, H0, F, M, S, sl, r, S', st, e, kk⟩ := hh
      dsimp only at e
      unfold evE evEs at e
      split at e
      · rename_i v S1 e1
        obtain ⟨z, e2, e3⟩ := Option.map_eq_some_iff.mp e
        cases e3
        refine tM_then st e1 fun F1 M1 H1 v1 x1 st1 r1 n1 => ?_
        unfold meS at e2
        split at e2 <;> first | contradiction | skip
        split at e2
        · rename_i hz
          cases e2
          obtain ⟨rfl, ok, zz⟩ := r1.dat.str_inv
          refine ⟨rfl, _, rfl, rfl, hz.1, hz.2, ?_⟩
          refine kk F1 M1 H1 _ x1 st1 (RRV.ofd (.str ?_ ?_)) trivial
          · unfold PyData.strOk
            rw [Array.all_eq_true_iff_forall_mem]
            intro c hcm
            obtain ⟨b, hb, rfl⟩ := Array.mem_map.mp hcm
            have h1 := hz.1
            unfold lowS at h1
            rw [Array.all_eq_true_iff_forall_mem] at h1
            have h2 := of_decide_eq_true (h1 b hb)
            have : upC b < 128 := by unfold upC; split <;> omega
            simp
            omega
          · show (Array.map upC _).size ≤ sizeLine
            rw [Array.size_map]
            exact zz
        · cases e2
      · cases e
    | cons y ys =>
      cases es with
      | nil => unfold chEs at hc; cases hc
      | cons a r =>
        refine pe_never fun σ H Q hh => tM_no (fun sl S => ?_) hh
        conv => lhs; unfold evE
        split
        · split
          · rename_i e2
            unfold evEs at e2
            split at e2
            · split at e2
              · cases e2
                unfold meS
                split <;> first | contradiction | rfl
              · cases e2
            · cases e2
          · rfl
        · rfl
  | _ => exact no fun r rs => by unfold meS; split <;> first | contradiction | rfl
theorem blkOk_of {X : Cx} {c : Cn} (C : CnOk X c) {scope : Scope} {own : List Nat} (h : blkC c.N c.sc scope (ownOf c.N own) = true) : BlkOk X.N X.env.scope scope (ownOf c.N own) := by
  rw [C.N, C.sc]
  exact blkOk_by h
theorem subNs_of {a b : List Nat} (h : subNs a b = true) : ∀ j ∈ a, j ∈ b := fun j hj => by
  unfold subNs at h
  rw [List.all_eq_true] at h
  exact of_decide_eq_true (h j hj)

/-! ### what the check says -/
section
variable {c : Cn} {x : Expr}
theorem i_dset {p q : Ex} (h : chE G c (.dset p q) x = true) : ∃ a b pos, x = .Dict [some a] [b] pos ∧ chE G c p a = true ∧ chE G c q b = true := by
  unfold chE at h
  split at h <;> first | contradiction | skip
  cases ‹Ex.dset _ _ = _›
  simp only [Bool.and_eq_true] at h
  exact ⟨_, _, _, rfl, h⟩
theorem i_cop {o : COp} {p q : Ex} (h : chE G c (.cop o p q) x = true) : ∃ a b pos, x = .Compare a [copOf o] [b] pos ∧ chE G c p a = true ∧ chE G c q b = true ∧ behindInMarks (copOf o) b = false := by
  unfold chE at h
  split at h <;> first | contradiction | skip
  cases ‹Ex.cop _ _ _ = _›
  simp only [Bool.and_eq_true, decide_eq_true_eq, Bool.not_eq_true'] at h
  obtain ⟨⟨⟨rfl, h1⟩, h2⟩, h3⟩ := h
  exact ⟨_, _, _, rfl, h1, h2, h3⟩
theorem i_chn {o o2 : COp} {p q r : Ex} (h : chE G c (.chn o o2 p q r) x = true) : ∃ a b d pos, x = .Compare a [copOf o, copOf o2] [b, d] pos ∧ chE G c p a = true ∧ chE G c q b = true ∧ chE G c r d = true ∧ lastMarks [copOf o, copOf o2] [b, d] = false := by
  unfold chE at h
  split at h <;> first | contradiction | skip
  cases ‹Ex.chn _ _ _ _ _ = _›
  simp only [Bool.and_eq_true, decide_eq_true_eq, Bool.not_eq_true'] at h
  obtain ⟨⟨⟨⟨⟨rfl, rfl⟩, h1⟩, h2⟩, h3⟩, h4⟩ := h
  exact ⟨_, _, _, _, rfl, h1, h2, h3, h4⟩
theorem i_neg {p : Ex} (h : chE G c (.neg p) x = true) : ∃ a pos, x = .UnaryOp .USub a pos ∧ chE G c p a = true := by
  unfold chE at h
  split at h <;> first | contradiction | skip
  cases ‹Ex.neg _ = _›
  exact ⟨_, _, rfl, h⟩
theorem i_not {p : Ex} (h : chE G c (.not p) x = true) : ∃ a pos, x = .UnaryOp .Not a pos ∧ notIf a = true ∧ chE G c p a = true := by
  unfold chE at h
  split at h <;> first | contradiction | skip
  cases ‹Ex.not _ = _›
  simp only [Bool.and_eq_true] at h
  exact ⟨_, _, rfl, h⟩
theorem i_and {p q : Ex} (h : chE G c (.and p q) x = true) : ∃ a b rest pos, x = .BoolOp .And (a :: b :: rest) pos ∧ notIf a = true ∧ notIf b = true ∧ chE G c p a = true ∧ ((rest = [] ∧ chE G c q b = true) ∨ chE G c q (.BoolOp .And (b :: rest) pos) = true) := by
  unfold chE at h
  split at h <;> first | contradiction | skip
  cases ‹Ex.and _ _ = _›
  simp only [Bool.and_eq_true] at h
  obtain ⟨⟨⟨n1, n2⟩, h1⟩, h2⟩ := h
  refine ⟨_, _, _, _, rfl, n1, n2, h1, ?_⟩
  split at h2
  · exact .inl ⟨rfl, h2⟩
  · exact .inr h2
theorem i_or {p q : Ex} (h : chE G c (.or p q) x = true) : ∃ a b rest pos, x = .BoolOp .Or (a :: b :: rest) pos ∧ notIf a = true ∧ notIf b = true ∧ chE G c p a = true ∧ ((rest = [] ∧ chE G c q b = true) ∨ chE G c q (.BoolOp .Or (b :: rest) pos) = true) := by
  unfold chE at h
  split at h <;> first | contradiction | skip
  cases ‹Ex.or _ _ = _›
  simp only [Bool.and_eq_true] at h
  obtain ⟨⟨⟨n1, n2⟩, h1⟩, h2⟩ := h
  refine ⟨_, _, _, _, rfl, n1, n2, h1, ?_⟩
  split at h2
  · exact .inl ⟨rfl, h2⟩
  · exact .inr h2
theorem i_ite {t p q : Ex} (h : chE G c (.ite t p q) x = true) : ∃ a b d pos, x = .IfExp a b d pos ∧ notIf a = true ∧ chE G c t a = true ∧ chE G c p b = true ∧ chE G c q d = true := by
  unfold chE at h
  split at h <;> first | contradiction | skip
  cases ‹Ex.ite _ _ _ = _›
  simp only [Bool.and_eq_true] at h
  exact ⟨_, _, _, _, rfl, h.1.1.1, h.1.1.2, h.1.2, h.2⟩
theorem i_sub {p q : Ex} (h : chE G c (.sub p q) x = true) : ∃ a b pos, x = .Subscript a b pos ∧ chE G c p a = true ∧ chE G c q b = true ∧ plainIxB b = true := by
  unfold chE at h
  split at h <;> first | contradiction | skip
  cases ‹Ex.sub _ _ = _›
  simp only [Bool.and_eq_true] at h
  exact ⟨_, _, _, rfl, h.1.1, h.1.2, h.2⟩
theorem i_slc {p : Ex} {lo hi : Exo} (h : chE G c (.slc p lo hi) x = true) : ∃ a l u p2 pos, x = .Subscript a (.Slice l u none p2) pos ∧ chE G c p a = true ∧ chO G c lo l = true ∧ chO G c hi u = true := by
  unfold chE at h
  split at h <;> first | contradiction | skip
  cases ‹Ex.slc _ _ _ = _›
  simp only [Bool.and_eq_true] at h
  exact ⟨_, _, _, _, _, rfl, h.1.1, h.1.2, h.2⟩
theorem i_rev {p : Ex} (h : chE G c (.rev p) x = true) : ∃ a j p1 p2 p3 pos, x = .Subscript a (.Slice none none (some (.UnaryOp .USub (.Constant (.int 1) j p1) p2)) p3) pos ∧ chE G c p a = true := by
  unfold chE at h
  split at h <;> first | contradiction | skip
  cases ‹Ex.rev _ = _›
  exact ⟨_, _, _, _, _, _, rfl, h⟩
theorem i_call {f : Nat} {es : Exs} (h : chE G c (.call f es) x = true) : ∃ d nm p as pos, x = .Call (.Name nm p) as [] pos ∧ G.ds f = some d ∧ d.name = nm ∧ glB c.sc nm = true ∧ chEs G c es as = true := by
  unfold chE at h
  split at h <;> first | contradiction | skip
  cases ‹Ex.call _ _ = _›
  simp only [Bool.and_eq_true] at h
  obtain ⟨⟨h0, h1⟩, h2⟩ := h
  split at h0
  · exact ⟨_, _, _, _, _, rfl, by assumption, of_decide_eq_true h0, h1, h2⟩
  · cases h0
theorem i_isi {p : Ex} {t : Ty} (h : chE G c (.isi p t) x = true) : ∃ a p1 p2 pos, x = .Call (.Name "isinstance" p1) [a, .Name t.name p2] [] pos ∧ glB c.sc "isinstance" = true ∧ glB c.sc t.name = true ∧ chE G c p a = true := by
  unfold chE at h
  split at h <;> first | contradiction | skip
  cases ‹Ex.isi _ _ = _›
  simp only [Bool.and_eq_true, decide_eq_true_eq] at h
  obtain ⟨⟨⟨⟨rfl, h1⟩, h2⟩, rfl⟩, h4⟩ := h
  exact ⟨_, _, _, _, rfl, h1, h4, h2⟩
theorem i_bi {b : Bi} {es : Exs} (h : chE G c (.bi b es) x = true) : ∃ nm p as pos, x = .Call (.Name nm p) as [] pos ∧ glB c.sc nm = true ∧ b.name = some nm ∧ chEs G c es as = true := by
  unfold chE at h
  split at h <;> first | contradiction | skip
  cases ‹Ex.bi _ _ = _›
  simp only [Bool.and_eq_true, decide_eq_true_eq] at h
  obtain ⟨h1, h2⟩ := h
  split at h1
  · simp only [Bool.and_eq_true, decide_eq_true_eq] at h1
    obtain ⟨rfl, h3⟩ := h1
    exact ⟨_, _, _, _, rfl, h2, by assumption, h3⟩
  · cases h1
theorem i_get2 {o p q : Ex} (h : chE G c (.get2 o p q) x = true) : ∃ a y z apos pos, x = .Call (.Attribute a "get" apos) [y, z] [] pos ∧ plainO a = true ∧ chE G c o a = true ∧ chE G c p y = true ∧ chE G c q z = true ∧ apos.endLine = pos.line := by
  unfold chE at h
  split at h <;> first | contradiction | skip
  cases ‹Ex.get2 _ _ _ = _›
  simp only [Bool.and_eq_true, decide_eq_true_eq] at h
  obtain ⟨⟨⟨⟨⟨h1, h2⟩, h3⟩, h4⟩, h5⟩, rfl⟩ := h
  exact ⟨_, _, _, _, _, rfl, h1, h2, h3, h4, h5⟩
theorem i_sset {p : Ex} (h : chE G c (.sset p) x = true) : ∃ a p1 p2 p3 pos, x = .Call (.Name "sorted" p1) [.Call (.Name "set" p2) [a] [] p3] [] pos ∧ glB c.sc "sorted" = true ∧ glB c.sc "set" = true ∧ chE G c p a = true := by
  unfold chE at h
  split at h <;> first | contradiction | skip
  cases ‹Ex.sset _ = _›
  simp only [Bool.and_eq_true, decide_eq_true_eq] at h
  obtain ⟨⟨⟨⟨rfl, h1⟩, rfl⟩, h2⟩, h3⟩ := h
  exact ⟨_, _, _, _, _, rfl, h1, h2, h3⟩
theorem i_min1 {p : Ex} (h : chE G c (.min1 p) x = true) : ∃ a p1 pos, x = .Call (.Name "min" p1) [a] [] pos ∧ glB c.sc "min" = true ∧ chE G c p a = true := by
  unfold chE at h
  split at h <;> first | contradiction | skip
  cases ‹Ex.min1 _ = _›
  simp only [Bool.and_eq_true, decide_eq_true_eq] at h
  obtain ⟨⟨rfl, h1⟩, h3⟩ := h
  exact ⟨_, _, _, rfl, h1, h3⟩
theorem i_sitm {p : Ex} (h : chE G c (.sitm p) x = true) : ∃ a p1 apos p3 pos, x = .Call (.Name "sorted" p1) [.Call (.Attribute a "items" apos) [] [] p3] [] pos ∧ glB c.sc "sorted" = true ∧ plainO a = true ∧ apos.endLine = p3.line ∧ chE G c p a = true := by
  unfold chE at h
  split at h <;> first | contradiction | skip
  cases ‹Ex.sitm _ = _›
  simp only [Bool.and_eq_true, decide_eq_true_eq] at h
  obtain ⟨⟨⟨⟨⟨rfl, h1⟩, rfl⟩, h2⟩, h3⟩, h4⟩ := h
  exact ⟨_, _, _, _, _, rfl, h1, h2, h3, h4⟩
theorem i_me {m : Me} {o : Ex} {es : Exs} (h : chE G c (.me m o es) x = true) : ∃ a nm apos as pos, x = .Call (.Attribute a nm apos) as [] pos ∧ plainO a = true ∧ chE G c o a = true ∧ chEs G c es as = true ∧ apos.endLine = pos.line ∧
    nm = m.name := by
  unfold chE at h
  split at h <;> first | contradiction | skip
  cases ‹Ex.me _ _ _ = _›
  simp only [Bool.and_eq_true, decide_eq_true_eq] at h
  exact ⟨_, _, _, _, _, rfl, h.1.1.1.1, h.1.1.1.2, h.1.1.2, h.1.2, h.2⟩
theorem i_lc {elt : Ex} {tg : Tg} {it : Itr} {cd : Exo} {own : List Nat} (h : chE G c (.lc elt tg it cd own) x = true) : ∃ e t i ifs scope pos, x = .ListComp e [⟨t, i, ifs, 0⟩] scope pos ∧ chI G c it t i = true ∧ blkC c.N c.sc scope (ownOf c.N own) = true ∧ chG (blkCn c scope) tg t = true ∧ subNs tg.ix own = true ∧
    chC G (blkCn c scope) cd ifs = true ∧ chE G (blkCn c scope) elt e = true := by
  unfold chE at h
  split at h <;> first | contradiction | skip
  cases ‹Ex.lc _ _ _ _ _ = _›
  simp only [Bool.and_eq_true] at h
  obtain ⟨⟨⟨⟨⟨⟨h1, h2⟩, h3⟩, h4⟩, h5⟩, h6⟩, h7⟩ := h
  exact ⟨_, _, _, _, _, _, rfl, h1, h3, h4, h5, h6, h7⟩
theorem i_lc2 {elt : Ex} {tg tg1 : Tg} {it it1 : Itr} {cd cd1 : Exo} {own own1 : List Nat} (h : chE G c (.lc2 elt tg it cd tg1 it1 cd1 own own1) x = true) : ∃ e t i ifs t1 i1 ifs1 scope pos, x = .ListComp e [⟨t, i, ifs, 0⟩, ⟨t1, i1, ifs1, 0⟩] scope pos ∧ chI G c it t i = true ∧ blkC c.N c.sc scope (ownOf c.N own) = true ∧
    chG (blkCn c scope) tg t = true ∧ subNs tg.ix own = true ∧ chC G (blkCn c scope) cd ifs = true ∧ chI G (blkCn c scope) it1 t1 i1 = true ∧ chG (blkCn c scope) tg1 t1 = true ∧ subNs tg1.ix own1 = true ∧ subNs own1 own = true ∧ chC G (blkCn c scope) cd1 ifs1 = true ∧ chE G (blkCn c scope) elt e = true := by
  unfold chE at h
  split at h <;> first | contradiction | skip
  cases ‹Ex.lc2 _ _ _ _ _ _ _ _ _ = _›
  simp only [Bool.and_eq_true] at h
  obtain ⟨⟨⟨⟨⟨⟨⟨⟨⟨⟨⟨h1, h2⟩, h3⟩, h4⟩, h5⟩, h6⟩, h7⟩, h8⟩, h9⟩, h10⟩, h11⟩, h12⟩ := h
  exact ⟨_, _, _, _, _, _, _, _, _, rfl, h1, h3, h4, h5, h6, h7, h8, h9, h10, h11, h12⟩
theorem i_dc {kk vv : Ex} {tg : Tg} {it : Itr} {cd : Exo} {own : List Nat} (h : chE G c (.dc kk vv tg it cd own) x = true) : ∃ ke ve t i ifs scope pos, x = .DictComp ke ve [⟨t, i, ifs, 0⟩] scope pos ∧ chI G c it t i = true ∧ blkC c.N c.sc scope (ownOf c.N own) = true ∧ chG (blkCn c scope) tg t = true ∧ subNs tg.ix own = true ∧
    chC G (blkCn c scope) cd ifs = true ∧ chE G (blkCn c scope) kk ke = true ∧ chE G (blkCn c scope) vv ve = true := by
  unfold chE at h
  split at h <;> first | contradiction | skip
  cases ‹Ex.dc _ _ _ _ _ _ = _›
  simp only [Bool.and_eq_true] at h
  obtain ⟨⟨⟨⟨⟨⟨⟨h1, h2⟩, h3⟩, h4⟩, h5⟩, h6⟩, h7⟩, h8⟩ := h
  exact ⟨_, _, _, _, _, _, _, rfl, h1, h3, h4, h5, h6, h7, h8⟩
theorem i_rng {p : Ex} {t : Expr} (h : chI G c (.rng p) t x = true) : ∃ a p1 pos, x = .Call (.Name "range" p1) [a] [] pos ∧ glB c.sc "range" = true ∧ chE G c p a = true := by
  unfold chI at h
  split at h <;> first | contradiction | skip
  cases ‹Itr.rng _ = _›
  simp only [Bool.and_eq_true, decide_eq_true_eq] at h
  obtain ⟨⟨rfl, h1⟩, h2⟩ := h
  exact ⟨_, _, _, rfl, h1, h2⟩
theorem i_rng2 {p q : Ex} {t : Expr} (h : chI G c (.rng2 p q) t x = true) : ∃ a b p1 pos, x = .Call (.Name "range" p1) [a, b] [] pos ∧ glB c.sc "range" = true ∧ chE G c p a = true ∧ chE G c q b = true := by
  unfold chI at h
  split at h <;> first | contradiction | skip
  cases ‹Itr.rng2 _ _ = _›
  simp only [Bool.and_eq_true, decide_eq_true_eq] at h
  obtain ⟨⟨⟨rfl, h1⟩, h2⟩, h3⟩ := h
  exact ⟨_, _, _, _, rfl, h1, h2, h3⟩
theorem i_zip {p q : Ex} {t : Expr} (h : chI G c (.zip p q) t x = true) : ∃ a b p1 pos es kk tp, t = .Tuple es kk tp ∧ x = .Call (.Name "zip" p1) [a, b] [] pos ∧ glB c.sc "zip" = true ∧ chE G c p a = true ∧ chE G c q b = true := by
  unfold chI at h
  split at h <;> first | contradiction | skip
  cases ‹Itr.zip _ _ = _›
  simp only [Bool.and_eq_true, decide_eq_true_eq] at h
  obtain ⟨⟨⟨rfl, h1⟩, h2⟩, h3⟩ := h
  exact ⟨_, _, _, _, _, _, _, rfl, rfl, h1, h2, h3⟩
theorem i_enm {p : Ex} {t : Expr} (h : chI G c (.enm p) t x = true) : ∃ a p1 pos es kk tp, t = .Tuple es kk tp ∧ x = .Call (.Name "enumerate" p1) [a] [] pos ∧ glB c.sc "enumerate" = true ∧ chE G c p a = true := by
  unfold chI at h
  split at h <;> first | contradiction | skip
  cases ‹Itr.enm _ = _›
  simp only [Bool.and_eq_true, decide_eq_true_eq] at h
  obtain ⟨⟨rfl, h1⟩, h2⟩ := h
  exact ⟨_, _, _, _, _, _, rfl, rfl, h1, h2⟩
end

mutual
theorem sE : ∀ (e : Ex) (X : Cx) (c : Cn) (a : Expr), Ctx X G E k → CnOk X c → chE G c e a = true → SOK X E e a
  | .var i, X, c, a, T, C, h => by
    cases a with
    | Name x pos =>
      unfold chE at h
      simp only [Bool.and_eq_true, Bool.not_eq_true'] at h
      exact .val (r_var C h.1.1 h.1.2 h.2) rfl
    | _ => simp [chE] at h
  | .glob g, X, c, a, T, C, h => by
    cases a with
    | Name x pos =>
      unfold chE at h
      simp only [Bool.and_eq_true, decide_eq_true_eq] at h
      exact .val (r_glob T C h.1 h.2) rfl
    | _ => simp [chE] at h
  | .non, X, c, a, T, C, h => by
    cases a with
    | Constant cc j pos =>
      cases cc with
      | none => exact .val r_non rfl
      | _ => simp [chE] at h
    | _ => simp [chE] at h
  | .bl b, X, c, a, T, C, h => by
    cases a with
    | Constant cc j pos =>
      cases cc with
      | bool b' =>
        unfold chE at h
        have h : b = b' := by simpa using h
        subst h
        exact .val r_bl rfl
      | _ => simp [chE] at h
    | _ => simp [chE] at h
  | .int b, X, c, a, T, C, h => by
    cases a with
    | Constant cc j pos =>
      cases cc with
      | int b' =>
        unfold chE at h
        have h : b = b' := by simpa using h
        subst h
        exact .val r_int rfl
      | _ => simp [chE] at h
    | _ => simp [chE] at h
  | .str b, X, c, a, T, C, h => by
    cases a with
    | Constant cc j pos =>
      cases cc with
      | str b' =>
        unfold chE at h
        simp only [Bool.and_eq_true, decide_eq_true_eq] at h
        obtain ⟨⟨rfl, h1⟩, h2⟩ := h
        exact .val (r_str h1 h2) rfl
      | _ => simp [chE] at h
    | _ => simp [chE] at h
  | .tup es, X, c, a, T, C, h => by
    cases a with
    | Tuple xs j pos => unfold chE at h; exact .val (r_tup (sXs es X c xs T C h)) rfl
    | _ => simp [chE] at h
  | .lst es, X, c, a, T, C, h => by
    cases a with
    | List xs pos => unfold chE at h; exact .val (r_lst (sXs es X c xs T C h)) rfl
    | _ => simp [chE] at h
  | .cel es, X, c, a, T, C, h => by
    cases a with
    | List xs pos => unfold chE at h; exact .val (r_cel (sXs es X c xs T C h)) rfl
    | _ => simp [chE] at h
  | .dnew, X, c, a, T, C, h => by
    unfold chE at h
    split at h <;> first | contradiction | skip
    exact .val r_dnew rfl
  | .dset p q, X, c, x, T, C, h => by
    obtain ⟨a, b, pos, rfl, h1, h2⟩ := i_dset h
    exact .val (r_dset T (sE p X c a T C h1).pe (sE q X c b T C h2).pe) rfl
  | .bop o p q, X, c, a, T, C, h => by
    cases a with
    | BinOp x op y pos =>
      unfold chE at h
      simp only [Bool.and_eq_true, decide_eq_true_eq] at h
      obtain ⟨⟨rfl, h1⟩, h2⟩ := h
      exact .val (r_bop (sE p X c x T C h1).pe (sE q X c y T C h2).pe) rfl
    | _ => simp [chE] at h
  | .cop o p q, X, c, x, T, C, h => by
    obtain ⟨a, b, pos, rfl, h1, h2, h3⟩ := i_cop h
    have s1 := (sE p X c a T C h1).pe
    have s2 := (sE q X c b T C h2).pe
    exact .test (r_cop T s1 s2 h3) (r_tcop T s1 s2 h3) fun _ _ _ z => nomatch z
  | .chn o o2 p q r, X, c, x, T, C, h => by
    obtain ⟨a, b, d, pos, rfl, h1, h2, h3, h4⟩ := i_chn h
    have s1 := (sE p X c a T C h1).pe
    have s2 := (sE q X c b T C h2).pe
    have s3 := (sE r X c d T C h3).pe
    exact .test (r_chn T s1 s2 s3 h4) (r_tchn T s1 s2 s3 h4) fun _ _ _ z => nomatch z
  | .neg p, X, c, x, T, C, h => by
    obtain ⟨a, pos, rfl, h1⟩ := i_neg h
    have s1 := r_neg (pos := pos) (sE p X c a T C h1).pe
    refine ⟨s1, fun _ => ?_, fun _ _ _ z => nomatch z⟩
    have he : ∀ whole, isTrue (.UnaryOp .USub a pos) X.env whole = (do let v ← whole; standAt (Expr.UnaryOp .USub a pos).pos; holding [v] (truthy v)) := by intro _; rfl
    refine PT.imp (pt_val s1 he) fun σ H Q hh => ?_
    exact tT_tM hh
  | .not p, X, c, x, T, C, h => by
    obtain ⟨a, pos, rfl, h1, h2⟩ := i_not h
    have s1 := sE p X c a T C h2
    exact .test (r_not s1.pe) (r_tnot (s1.pt h1)) fun _ _ _ z => nomatch z
  | .and p q, X, c, x, T, C, h => by
    obtain ⟨a, b, rest, pos, rfl, n1, n2, h1, h2⟩ := i_and h
    have s1 := sE p X c a T C h1
    rcases h2 with ⟨rfl, h2⟩ | h2
    · have s2 := sE q X c b T C h2
      have w := r_wand (pos := pos) (s1.pt n1) (r_wone (s2.pt n2))
      exact ⟨r_and s1.pe (r_one s2.pe), fun _ => w.pt, fun _ _ _ _ => w⟩
    · have s2 := sE q X c (.BoolOp .And (b :: rest) pos) T C h2
      have w := r_wand (s1.pt n1) (s2.pw _ _ _ rfl)
      exact ⟨r_and s1.pe s2.pe, fun _ => w.pt, fun _ _ _ _ => w⟩
  | .or p q, X, c, x, T, C, h => by
    obtain ⟨a, b, rest, pos, rfl, n1, n2, h1, h2⟩ := i_or h
    have s1 := sE p X c a T C h1
    rcases h2 with ⟨rfl, h2⟩ | h2
    · have s2 := sE q X c b T C h2
      have w := r_wor (pos := pos) (s1.pt n1) (r_wone (s2.pt n2))
      exact ⟨r_or s1.pe (r_one s2.pe), fun _ => w.pt, fun _ _ _ _ => w⟩
    · have s2 := sE q X c (.BoolOp .Or (b :: rest) pos) T C h2
      have w := r_wor (s1.pt n1) (s2.pw _ _ _ rfl)
      exact ⟨r_or s1.pe s2.pe, fun _ => w.pt, fun _ _ _ _ => w⟩
  | .ite t p q, X, c, x, T, C, h => by
    obtain ⟨a, b, d, pos, rfl, n1, h1, h2, h3⟩ := i_ite h
    exact .noif (r_ite ((sE t X c a T C h1).pt n1) (sE p X c b T C h2).pe (sE q X c d T C h3).pe) rfl fun _ _ _ z => nomatch z
  | .sub p q, X, c, x, T, C, h => by
    obtain ⟨a, b, pos, rfl, h1, h2, h3⟩ := i_sub h
    exact .val (r_sub T (sE p X c a T C h1).pe (sE q X c b T C h2).pe h3) rfl
  | .slc p lo hi, X, c, x, T, C, h => by
    obtain ⟨a, l, u, p2, pos, rfl, h1, h2, h3⟩ := i_slc h
    exact .val (r_slc (sE p X c a T C h1).pe (sO lo X c l T C h2) (sO hi X c u T C h3)) rfl
  | .rev p, X, c, x, T, C, h => by
    obtain ⟨a, j, p1, p2, p3, pos, rfl, h1⟩ := i_rev h
    exact .val (r_rev (sE p X c a T C h1).pe) rfl
  | .call f es, X, c, x, T, C, h => by
    obtain ⟨d, nm, p, as, pos, rfl, h1, h2, h3, h4⟩ := i_call h
    exact .val (r_call T C h1 h2 h3 (sXs es X c as T C h4) h4) rfl
  | .isi p t, X, c, x, T, C, h => by
    obtain ⟨a, p1, p2, pos, rfl, h1, h2, h3⟩ := i_isi h
    exact .val (r_isi T C h1 h2 (sE p X c a T C h3).pe (chE_ns h3)) rfl
  | .bi b es, X, c, x, T, C, h => by
    obtain ⟨nm, p, as, pos, rfl, h1, h2, h3⟩ := i_bi h
    exact .val (r_bi T C h2 h1 (sEs es X c as T C h3) h3) rfl
  | .get2 o p q, X, c, x, T, C, h => by
    obtain ⟨a, y, z, apos, pos, rfl, h1, h2, h3, h4, h5⟩ := i_get2 h
    exact .val (r_get2 T (sE o X c a T C h2).pe (sE p X c y T C h3).pe (sE q X c z T C h4).pe h1 (chE_ns h3) (chE_ns h4) h5) rfl
  | .sset p, X, c, x, T, C, h => by
    obtain ⟨a, p1, p2, p3, pos, rfl, h1, h2, h3⟩ := i_sset h
    exact .val (r_sset T C h1 h2 (chE_ns h3) (sE p X c a T C h3).pe) rfl
  | .lset p, X, c, x, T, C, h => by
    unfold chE at h
    cases h
  | .min1 p, X, c, x, T, C, h => by
    obtain ⟨a, p1, pos, rfl, h1, h2⟩ := i_min1 h
    exact .val (r_min1 T C h1 (chE_ns h2) (sE p X c a T C h2).pe) rfl
  | .sitm p, X, c, x, T, C, h => by
    obtain ⟨a, p1, apos, p3, pos, rfl, h1, h2, h3, h4⟩ := i_sitm h
    exact .val (r_sitm T C h1 (sE p X c a T C h4).pe h2 h3) rfl
  | .me m o es, X, c, x, T, C, h => by
    obtain ⟨a, nm, apos, as, pos, rfl, h0, h1, h2, h3, h4⟩ := i_me h
    exact .val (r_me T C (sE o X c a T C h1).pe (sEs es X c as T C h2) h2 h1 h3 h4 h0) rfl
  | .lc elt tg it cd own, X, c, x, T, C, h => by
    obtain ⟨e, t, i, ifs, scope, pos, rfl, h1, h2, h3, h4, h5, h6⟩ := i_lc h
    obtain ⟨tl, p1, p2, p3⟩ := r_lc (pos := pos) T.calm T.nd (ownOf_ix _ _) (sI it X c t i T C h1) (blkOk_of C h2) (fun s H K cl fp => r_tg (T.blk s H scope _ fp).calm (T.blk s H scope _ fp).nd (C.blk s H scope K cl fp) h3) (fun s H K cl fp => sC cd _ _ ifs (T.blk s H scope _ fp) (C.blk s H scope K cl fp) h5)
      (fun s H K cl fp => (sE elt _ _ e (T.blk s H scope _ fp) (C.blk s H scope K cl fp) h6).pe) (fun x => chI_nf h1 _ x) (subNs_of h4)
    exact .val (PE.imp p1 p3) rfl
  | .lc2 elt tg it cd tg1 it1 cd1 own own1, X, c, x, T, C, h => by
    obtain ⟨e, t, i, ifs, t1, i1, ifs1, scope, pos, rfl, h1, h2, h3, h4, h5, h6, h7, h8, h9, h10, h11⟩ := i_lc2 h
    obtain ⟨tl, p1, p2, p3⟩ := r_lc2 (pos := pos) T.calm T.nd (ownOf_ix _ _) (sI it X c t i T C h1) (blkOk_of C h2) (fun s H K cl fp => r_tg (T.blk s H scope _ fp).calm (T.blk s H scope _ fp).nd (C.blk s H scope K cl fp) h3) (fun s H K cl fp => sC cd _ _ ifs (T.blk s H scope _ fp) (C.blk s H scope K cl fp) h5)
      (fun s H K cl fp => sI it1 _ _ t1 i1 (T.blk s H scope _ fp) (C.blk s H scope K cl fp) h6) (fun s H K cl fp => r_tg (T.blk s H scope _ fp).calm (T.blk s H scope _ fp).nd (C.blk s H scope K cl fp) h7) (fun s H K cl fp => sC cd1 _ _ ifs1 (T.blk s H scope _ fp) (C.blk s H scope K cl fp) h10)
      (fun s H K cl fp => (sE elt _ _ e (T.blk s H scope _ fp) (C.blk s H scope K cl fp) h11).pe) (fun x => chI_nf h1 _ x) (fun env x => chI_nf h6 env x) (subNs_of h4) (subNs_of h8) (subNs_of h9)
    exact .val (PE.imp p1 p3) rfl
  | .dc kk vv tg it cd own, X, c, x, T, C, h => by
    obtain ⟨ke, ve, t, i, ifs, scope, pos, rfl, h1, h2, h3, h4, h5, h6, h7⟩ := i_dc h
    obtain ⟨tl, p1, p2, p3⟩ := r_dc (pos := pos) T.calm T.nd (ownOf_ix _ _) (sI it X c t i T C h1) (blkOk_of C h2) (fun s H K cl fp => r_tg (T.blk s H scope _ fp).calm (T.blk s H scope _ fp).nd (C.blk s H scope K cl fp) h3) (fun s H K cl fp => sC cd _ _ ifs (T.blk s H scope _ fp) (C.blk s H scope K cl fp) h5)
      (fun s H K cl fp => (sE kk _ _ ke (T.blk s H scope _ fp) (C.blk s H scope K cl fp) h6).pe) (fun s H K cl fp => (sE vv _ _ ve (T.blk s H scope _ fp) (C.blk s H scope K cl fp) h7).pe) (fun x => chI_nf h1 _ x) (subNs_of h4)
    exact .val (PE.imp p1 p3) rfl
theorem sXs : ∀ (es : Exs) (X : Cx) (c : Cn) (as : List Expr), Ctx X G E k → CnOk X c → chEs G c es as = true → PA X as (tAx X.w X.K fun sl S => evXs E sl S es)
  | .nil, X, c, as, T, C, h => by
    cases as with
    | nil => exact r_xnil
    | cons a as => unfold chEs at h; cases h
  | .cons e r, X, c, as, T, C, h => by
    cases as with
    | nil => unfold chEs at h; cases h
    | cons a as =>
      unfold chEs at h
      rw [Bool.and_eq_true] at h
      exact r_xcons (sE e X c a T C h.1).pe (sXs r X c as T C h.2) (chE_ns h.1)
theorem sEs : ∀ (es : Exs) (X : Cx) (c : Cn) (as : List Expr), Ctx X G E k → CnOk X c → chEs G c es as = true → PA X as (tAs X.w X.K fun sl S => evEs E sl S es)
  | .nil, X, c, as, T, C, h => by
    cases as with
    | nil => exact r_enil
    | cons a as => unfold chEs at h; cases h
  | .cons e r, X, c, as, T, C, h => by
    cases as with
    | nil => unfold chEs at h; cases h
    | cons a as =>
      unfold chEs at h
      rw [Bool.and_eq_true] at h
      exact r_econs (sE e X c a T C h.1).pe (sEs r X c as T C h.2) (chE_ns h.1)
theorem sO : ∀ (o : Exo) (X : Cx) (c : Cn) (a : Option Expr), Ctx X G E k → CnOk X c → chO G c o a = true → PO X a (tOb X.w X.K fun sl S => evO E sl S o)
  | .no, X, c, a, T, C, h => by
    cases a with
    | none => exact r_bno
    | some a => unfold chO at h; cases h
  | .yes e, X, c, a, T, C, h => by
    cases a with
    | none => unfold chO at h; cases h
    | some a => unfold chO at h; exact r_byes (sE e X c a T C h).pe
theorem sC : ∀ (o : Exo) (X : Cx) (c : Cn) (as : List Expr), Ctx X G E k → CnOk X c → chC G c o as = true → PTs X as (tT X.w X.K fun sl S => evC E sl S o)
  | .no, X, c, as, T, C, h => by
    cases as with
    | nil => exact r_cno
    | cons a as => unfold chC at h; cases h
  | .yes e, X, c, as, T, C, h => by
    unfold chC at h
    split at h <;> first | contradiction | skip
    rename_i e' a he
    cases he
    rw [Bool.and_eq_true] at h
    exact r_cyes ((sE e X c _ T C h.2).pt h.1)
theorem sI : ∀ (i : Itr) (X : Cx) (c : Cn) (t a : Expr), Ctx X G E k → CnOk X c → chI G c i t a = true → PI X t a (tI X.w X.K fun sl S => evI E sl S i)
  | .seq e, X, c, t, a, T, C, h => by unfold chI at h; exact r_iseq (sE e X c a T C h).pe
  | .rng e, X, c, t, x, T, C, h => by
    obtain ⟨a, p1, pos, rfl, h1, h2⟩ := i_rng h
    exact r_irng T C h1 (sE e X c a T C h2).pe (chE_ns h2)
  | .rng2 e f, X, c, t, x, T, C, h => by
    obtain ⟨a, b, p1, pos, rfl, h1, h2, h3⟩ := i_rng2 h
    exact r_irng2 T C h1 (sE e X c a T C h2).pe (sE f X c b T C h3).pe (chE_ns h2) (chE_ns h3)
  | .zip e f, X, c, t, x, T, C, h => by
    obtain ⟨a, b, p1, pos, es, kk, tp, rfl, rfl, h1, h2, h3⟩ := i_zip h
    exact r_izip T C h1 (sE e X c a T C h2).pe (sE f X c b T C h3).pe (chE_ns h2) (chE_ns h3)
  | .enm e, X, c, t, x, T, C, h => by
    obtain ⟨a, p1, pos, es, kk, tp, rfl, rfl, h1, h2⟩ := i_enm h
    exact r_ienm T C h1 (sE e X c a T C h2).pe (chE_ns h2)
end
end
end DL

/-! The data layer, part 14: statements. -/
namespace DL
open PySem PySem.Spec PyProof.Rows L2

/-- which names are stored from the right, if any; none: not told here -/
def swB (sc : Scope) (ts vs : List Expr) : Option (Option (List Str)) :=
  if !(ts.length == 2 || ts.length == 3) || vs.length != ts.length then some none
  else if (vs.any fun | .Starred .. => true | _ => false) then some none
  else
    let line := (ts.head?.map (·.pos.line)).getD 0
    let names := ts.filterMap fun
      | .Name id pos => if sc.names.lookup id == some .local && pos.line == line then some id else none
      | _ => none
    if names.length != ts.length || names.eraseDups.length != names.length then some none
    else if vs.all (foldedForSure 8) then some none
    else if vs.all (constantsAlone 8) then none
    else some (some names)
theorem swB_ok {env : Env} {ts vs : List Expr} {k k2 : Nat} {p p2 : Pos} {r : Option (List Str)} (hk : env.scope.kind = .function) (h : swB env.scope ts vs = some r) : swappedStores [.Tuple ts k p] (.Tuple vs k2 p2) env = pure r := by
  have hb : env.blockKind = .function := by unfold Env.blockKind; rw [hk]; rfl
  have hf : (env.blockKind != ScopeKind.function) = false := by rw [hb]; rfl
  unfold swB at h
  have e : swappedStores [.Tuple ts k p] (.Tuple vs k2 p2) env = (do
      if !(ts.length == 2 || ts.length == 3) || vs.length != ts.length || env.blockKind != .function then return none
      if vs.any fun | .Starred .. => true | _ => false then return none
      let line := (ts.head?.map (·.pos.line)).getD 0
      let names := ts.filterMap fun
        | .Name id pos => if env.kindOf id == some .local && pos.line == line then some id else none
        | _ => none
      if names.length != ts.length || names.eraseDups.length != names.length then return none
      if vs.all (foldedForSure 8) then return none
      if vs.all (constantsAlone 8) then unsupported "assign.tuple-of-constant-expressions:order-of-the-stores"
      return some names) := rfl
  rw [e, hf, Bool.or_false]
  split at h
  · rename_i h1
    cases h
    rw [if_pos h1]
  · rename_i h1
    rw [if_neg h1]
    split at h
    · rename_i h2
      cases h
      exact if_pos h2
    · rename_i h2
      refine (if_neg h2).trans ?_
      dsimp only at h
      split at h
      · rename_i h3
        cases h
        show (if _ then _ else _) = _
        exact if_pos h3
      · rename_i h3
        refine (if_neg h3).trans ?_
        split at h
        · rename_i h4
          cases h
          show (if _ then _ else _) = _
          exact if_pos h4
        · rename_i h4
          refine (if_neg h4).trans ?_
          split at h
          · cases h
          · rename_i h5
            cases h
            refine (if_neg h5).trans ?_
            rfl
def notComp : Expr → Bool
  | .ListComp .. => false
  | .SetComp .. => false
  | .DictComp .. => false
  | _ => true
def notTup : Expr → Bool
  | .Tuple .. => false
  | _ => true
theorem sw_no {a : Expr} {t : Option Expr} {l : Nat} {env : Env} (h : notComp a = true) : swapsWith a t l env = pure false := by
  cases a <;> first | rfl | cases h
theorem sw_tup {a : Expr} {es : List Expr} {k : Nat} {p : Pos} {l : Nat} {env : Env} : swapsWithSole [.Tuple es k p] a l env = pure false := by
  cases a <;> rfl
theorem sws_no {ts : List Expr} {a : Expr} {env : Env} (h : notTup a = true) : swappedStores ts a env = pure none := by
  unfold swappedStores
  split
  · rename_i x ts' vs' e
    split at e
    · cases h
    · cases h
    · cases e
  · rfl

/-- a parallel assignment's two ways -/
def parB (c : Cn) (is : List Nat) (ts vs : List Expr) : Bool := match swB c.sc ts vs with
  | some none => decide (ts.length ≤ 64)
  | some (some ns) => match is, ts, vs with
    | [_, _], [.Name x _, .Name y _], [_, _] => decide (ns = [x, y]) && c.sc.names.lookup x == some .local && c.sc.names.lookup y == some .local
    | [_, _, _], [.Name x _, .Name y _, .Name z _], [_, _, _] => decide (ns = [x, y, z]) && c.sc.names.lookup x == some .local && c.sc.names.lookup y == some .local && c.sc.names.lookup z == some .local
    | _, _, _ => false
  | none => false
mutual
def chS (G : Pg) (c : Cn) : Sm → Stmt → Bool
  | .asg (.nm i) e, .Assign [.Name x _] a _ => slotB c i x && locB c x && chE G c e a
  | .asg (.tp is) e, .Assign [.Tuple es _ _] a _ => chNs c is es && chE G c e a && notTup a && notComp a
  | .par is es, .Assign [.Tuple ts _ _] (.Tuple vs _ _) _ => chNs c is ts && chEs G c es vs && parB c is ts vs && decide is.Nodup
  | .put i kk e, .Assign [.Subscript (.Name x _) y _] a _ => slotB c i x && visB c.sc x && !isDbg x && chE G c kk y && plainIxB y && chE G c e a && notComp a
  | .app i e, .Expr (.Call (.Attribute (.Name x _) nm apos) [a] [] pos) _ => decide (nm = ("append" : Str)) && slotB c i x && visB c.sc x && !isDbg x && decide (apos.endLine = pos.line) && chE G c e a
  | .pop j i, .Assign [.Name y _] (.Call (.Attribute (.Name x _) nm apos) [] [] pos) _ => decide (nm = ("pop" : Str)) && slotB c i x && visB c.sc x && !isDbg x && decide (apos.endLine = pos.line) && slotB c j y && locB c y
  | .ret e, .Return (some a) _ => chE G c e a
  | .retN, .Return none _ => true
  | .ife t a b, .If x as bs _ => notIf x && chE G c t x && chSs G c a as && chSs G c b bs
  | .forr tg it b, .For t i as [] _ => chI G c it t i && chG c tg t && chSs G c b as
  | .whl t b, .While x as [] _ => notIf x && chE G c t x && chSs G c b as
  | .expr e, .Expr a _ => chE G c e a && notComp a
  | .pass, .Pass _ => true
  | .brk, .Break _ => true
  | .cnt, .Continue _ => true
  | .never, _ => true
  | _, _ => false
def chSs (G : Pg) (c : Cn) : Sms → List Stmt → Bool
  | .nil, [] => true
  | .cons (.frz _) r, ss => chSs G c r ss
  | .cons s r, a :: as => chS G c s a && chSs G c r as
  | _, _ => false
end

section
variable (w : World) (K : Frg)
/-- what is wanted behind a statement's end -/
def PostO (F0 : Hp) (M0 : List Addr) (H0 F : Hp) (D : Ends) : Out → Prop
  | .nx sl S => ∀ F' M' σ' H', Sub F F' → Stt w K F0 M0 H0 F' M' S sl σ' H' → D.nx σ' H'
  | .brk sl S => ∀ F' M' σ' H', Sub F F' → Stt w K F0 M0 H0 F' M' S sl σ' H' → D.bk σ' H'
  | .cnt sl S => ∀ F' M' σ' H', Sub F F' → Stt w K F0 M0 H0 F' M' S sl σ' H' → D.ct σ' H'
  | .ret v S => ∀ F' M' H' z, Sub F F' → Xt F0 M0 H0 F' M' H' → Cls K F' M' H' S → v.free = true → RSV w K H0 F' M' H' z v → D.rt z H'
def tS (m : Slots → Store → Option Out) : TS := fun D σ H => ∃ (F0 : Hp) (M0 : List Addr) (H0 F : Hp) (M : List Addr) (S : Store) (sl : Slots) (out : Out), Stt w K F0 M0 H0 F M S sl σ H ∧ m sl S = some out ∧ PostO w K F0 M0 H0 F D out
end
theorem PS.imp {X : Cx} {e : Stmt} {t t' : TS} (h : PS X e t) (i : ∀ D σ H, t' D σ H → t D σ H) : PS X e t' := ⟨fun pins s σ H Q I hq => h.run pins s σ H Q I (i _ _ _ hq)⟩
theorem PSs.imp {X : Cx} {e : List Stmt} {t t' : TS} (h : PSs X e t) (i : ∀ D σ H, t' D σ H → t D σ H) : PSs X e t' := ⟨fun pins s σ H Q I hq => h.run pins s σ H Q I (i _ _ _ hq)⟩
section
variable {w : World} {K : Frg} {F0 H0 F H : Hp} {M0 M : List Addr} {S : Store} {sl : Slots} {σ : L2.St}
theorem tS_then {m : Slots → Store → Option Out} {out : Out} {D : Ends} (st : Stt w K F0 M0 H0 F M S sl σ H) (e : m sl S = some out) (k : PostO w K F0 M0 H0 F D out) : tS w K m D σ H := ⟨F0, M0, H0, F, M, S, sl, out, st, e, k⟩
theorem PostO.sub {F' : Hp} {D : Ends} (s : Sub F F') : ∀ {out : Out}, PostO w K F0 M0 H0 F D out → PostO w K F0 M0 H0 F' D out
  | .nx sl S, h => fun F2 M2 σ2 H2 q => h F2 M2 σ2 H2 (s.trans q)
  | .brk sl S, h => fun F2 M2 σ2 H2 q => h F2 M2 σ2 H2 (s.trans q)
  | .cnt sl S, h => fun F2 M2 σ2 H2 q => h F2 M2 σ2 H2 (s.trans q)
  | .ret v S, h => fun F2 M2 H2 z q => h F2 M2 H2 z (s.trans q)
/-- an expression's value goes into a slot -/
theorem Stt.put {M1 : List Addr} {F1 H1 : Hp} {S1 : Store} {r : RV} {v : V} {i : Nat} {sv : SV} (st : Stt w K F0 M0 H0 F M S sl σ H) (x : Xt F M H F1 M1 H1) (st1 : Stt w K F0 M0 H0 F1 M1 S1 sl σ H1) (h : RRV w K H0 F1 M1 H1 v r) (n : NewIn H v r)
    (e : (∃ s, r = .sv s ∧ sv = s) ∨ ∃ o, r = .new o ∧ sv = .own o) : Stt w K F0 M0 H0 F1 M1 S1 (sl.set i (some sv)) (σ.set i (some v)) H1 := by
  rcases e with ⟨s, rfl, rfl⟩ | ⟨o, rfl, rfl⟩
  · exact st1.set i h.1 h.2
  · obtain ⟨a, rfl, h0, q⟩ := h
    refine st1.setOwn i h0 q fun j u e1 e2 => ?_
    obtain ⟨v', e3, e4⟩ := st.slots j _ e1
    rw [e2] at e3; cases e3
    unfold RSV at e4
    obtain ⟨b, eb, _, q'⟩ := e4
    cases eb
    exact q'.2.2.some (n a rfl)
/-- an owned object is frozen -/
theorem RSV.frz (sF : Sub F F') {F' : Hp} : True := trivial
theorem rsv_frz {F' : Hp} (sF : Sub F F') : ∀ {sv : SV} {v : V}, sv.free = true → RSV w K H0 F M H v sv → RSV w K H0 F' M H v sv
  | .val d, _, _, h => by unfold RSV at h ⊢; exact Rp.sub sF h
  | .cell r, _, _, h => by unfold RSV at h ⊢; exact h
  | .dct kvs, _, _, h => by unfold RSV at h ⊢; obtain ⟨b, e, q⟩ := h; exact ⟨b, e, q.frz sF sF⟩
  | .pk a b, _, f, h => by
    unfold RSV at h ⊢
    have f : (a.free && b.free) = true := f
    rw [Bool.and_eq_true] at f
    obtain ⟨p, u, v, e, q, h1, h2⟩ := h
    exact ⟨p, u, v, e, SqT.sub sF q, rsv_frz sF f.1 h1, rsv_frz sF f.2 h2⟩
  | .scr ns, _, _, h => by unfold RSV at h ⊢; obtain ⟨b, e, z, q⟩ := h; exact ⟨b, e, z, SqL.sub sF q⟩
  | .own o, _, f, _ => by cases f
theorem Stt.frz (st : Stt w K F0 M0 H0 F M S sl σ H) {i : Nat} {o : OV} (e : sl[i]? = some (some (.own o))) : ∃ F', Sub F F' ∧ Stt w K F0 M0 H0 F' M S (sl.set i (some o.fz)) σ H := by
  obtain ⟨v, e1, e2⟩ := st.slots i _ e
  unfold RSV at e2
  obtain ⟨a, rfl, h0, fa, ma, oa⟩ := e2
  obtain ⟨u, hu⟩ : ∃ u, H a = some u := by
    cases q : H a with
    | none => exact absurd q oa.some
    | some u => exact ⟨u, rfl⟩
  have sF : Sub F (upd F a u) := fun b z e => by rw [upd_ne (ne_of_none e fa)]; exact e
  have x : Xt F0 M0 H0 (upd F a u) M H := ⟨st.base.keep, st.base.there, st.base.frz.trans sF, Sub.put st.sub hu, fun b e1 e2 => by rw [upd_ne (fun (z : b = a) => e2 (by rw [z]; exact h0))]; exact st.base.own b e1 e2, st.base.cel⟩
  have cls : Cls K (upd F a u) M H S := st.cls.mono sF (fun b hb => by rw [upd_ne (fun (z : b = a) => ma (by rw [← z]; exact hb))]; exact (st.cls.mem_some hb).1) fun _ _ => rfl
  have fz : RSV w K H0 (upd F a u) M H (.ref a) o.fz := by
    cases o with
    | lst ds =>
      obtain ⟨vs, q, z, rr⟩ := oa
      rw [hu] at q; cases q
      show RSV w K H0 _ M H (.ref a) (.val (.list ds))
      unfold RSV
      exact .lst upd_same z (Rps.sub sF rr)
    | dct kvs =>
      obtain ⟨o, ks, vs, q, d, r1, r2⟩ := oa
      rw [hu] at q; cases q
      show RSV w K H0 _ M H (.ref a) (.dct kvs)
      unfold RSV
      exact ⟨a, rfl, o, ks, vs, upd_same, d, Rps.sub sF r1, Rps.sub sF r2⟩
  refine ⟨upd F a u, sF, x, by rw [List.length_set]; exact st.len, cls, fun j sv ej => ?_, fun j l oj ol v ej el sj sl' => ?_, fr_set (.inl (OV.fz_free o)) st.fr⟩
  · by_cases hj : i = j
    · subst hj
      rw [List.getElem?_set_self (List.getElem?_eq_some_iff.mp e).1] at ej
      cases ej
      exact ⟨.ref a, e1, fz⟩
    · rw [List.getElem?_set_ne hj] at ej
      obtain ⟨v, e3, e4⟩ := st.slots j sv ej
      refine ⟨v, e3, ?_⟩
      rcases st.fr j sv ej with f | ⟨o', rfl⟩
      · exact rsv_frz sF f e4
      · have hne : v ≠ .ref a := fun z => by subst z; exact hj (st.inj i j o o' _ e ej e1 e3)
        unfold RSV at e4 ⊢
        obtain ⟨b, rfl, n0, fb, mb, ob⟩ := e4
        have hb : b ≠ a := fun z => hne (by rw [z])
        refine ⟨b, rfl, n0, by rw [upd_ne hb]; exact fb, mb, ?_⟩
        cases o' with
        | lst ds => obtain ⟨vs, q, z, rr⟩ := ob; exact ⟨vs, q, z, Rps.sub sF rr⟩
        | dct kvs => exact DctAt.frz sF (Sub.refl _) ob
  · have ni : ∀ {j : Nat} {oj : OV}, (sl.set i (some o.fz))[j]? = some (some (.own oj)) → i ≠ j := fun {j oj} ej z => by
      subst z
      rw [List.getElem?_set_self (List.getElem?_eq_some_iff.mp e).1] at ej
      have : o.fz = .own oj := by simpa using ej
      cases o <;> cases this
    rw [List.getElem?_set_ne (ni ej)] at ej
    rw [List.getElem?_set_ne (ni el)] at el
    exact st.inj j l oj ol v ej el sj sl'
/-- an owned object is written -/
theorem Stt.mut (st : Stt w K F0 M0 H0 F M S sl σ H) {i : Nat} {o o' : OV} {a : Addr} {u : HO} (e : sl[i]? = some (some (.own o))) (es : σ[i]? = some (some (.ref a))) (h0 : H0 a = none) (q : OwnAt w K F M H a o) (n : OvAt w K F (upd H a u) a o') :
    Stt w K F0 M0 H0 F M S (sl.set i (some (.own o'))) σ (upd H a u) := by
  obtain ⟨fa, ma, oa⟩ := q
  have hne : ∀ b, F b ≠ none → b ≠ a := fun b h z => h (by rw [z]; exact fa)
  have sub : Sub F (upd H a u) := fun b z eb => by rw [upd_ne (hne b (by rw [eb]; exact fun z => nomatch z))]; exact st.sub b z eb
  refine ⟨⟨fun b z mb eb => ?_, fun b eb => ?_, st.base.frz, sub, st.base.own, st.base.cel⟩, by rw [List.length_set]; exact st.len, st.cls.mono (Sub.refl F) (fun b hb => (st.cls.mem_some hb).1) fun b hb => upd_ne fun (z : b = a) => ma (by rw [← z]; exact hb), fun j sv ej => ?_, fun j l oj ol v ej el sj sl' => ?_, fr_set (.inr ⟨o', rfl⟩) st.fr⟩
  · rw [upd_ne (ne_of_none eb h0)]; exact st.base.keep b z mb eb
  · by_cases h : b = a
    · rw [h, upd_same]; exact fun z => nomatch z
    · rw [upd_ne h]; exact st.base.there b eb
  · by_cases hj : i = j
    · subst hj
      rw [List.getElem?_set_self (List.getElem?_eq_some_iff.mp e).1] at ej
      cases ej
      refine ⟨.ref a, es, ?_⟩
      unfold RSV
      exact ⟨a, rfl, h0, fa, ma, n⟩
    · rw [List.getElem?_set_ne hj] at ej
      obtain ⟨v, e3, e4⟩ := st.slots j sv ej
      refine ⟨v, e3, ?_⟩
      rcases st.fr j sv ej with f | ⟨o2, rfl⟩
      · exact RSV.free f e4
      · have hv : v ≠ .ref a := fun z => by subst z; exact hj (st.inj i j o o2 _ e ej es e3)
        unfold RSV at e4 ⊢
        obtain ⟨b, rfl, n0, fb, mb, ob⟩ := e4
        have hb : b ≠ a := fun z => hv (by rw [z])
        refine ⟨b, rfl, n0, fb, mb, ?_⟩
        cases o2 with
        | lst ds => obtain ⟨vs, q, z, rr⟩ := ob; exact ⟨vs, by rw [upd_ne hb]; exact q, z, rr⟩
        | dct kvs =>
          obtain ⟨o, ks, vs, q, d, r1, r2⟩ := ob
          exact ⟨o, ks, vs, by rw [upd_ne hb]; exact q, d, r1, r2⟩
  · have own : ∀ {j : Nat} {oj : OV}, (sl.set i (some (.own o')))[j]? = some (some (.own oj)) → ∃ oj', sl[j]? = some (some (.own oj')) := fun {j oj} ej => by
      by_cases hj : i = j
      · exact ⟨o, by rw [← hj]; exact e⟩
      · rw [List.getElem?_set_ne hj] at ej; exact ⟨oj, ej⟩
    obtain ⟨oj', ej'⟩ := own ej
    obtain ⟨ol', el'⟩ := own el
    exact st.inj j l oj' ol' v ej' el' sj sl'
/-- a reference cell is written -/
theorem Stt.cel (st : Stt w K F0 M0 H0 F M S sl σ H) {r : Nat} {a : Addr} {vs : List V} {ds : List D} (e : M[r]? = some a) (z : vs.length ≤ sizeLine) (rr : Rps K F vs ds) : Stt w K F0 M0 H0 F M (S.set r ds) sl σ (upd H a (.lst vs)) := by
  have ma : a ∈ M := List.mem_of_getElem? e
  obtain ⟨fa, ha⟩ := st.cls.mem_some ma
  have hne : ∀ b, F b ≠ none → b ≠ a := fun b h z => h (by rw [z]; exact fa)
  have sub : Sub F (upd H a (.lst vs)) := fun b z eb => by rw [upd_ne (hne b (by rw [eb]; exact fun z => nomatch z))]; exact st.sub b z eb
  have hH0 : ∀ b o, b ∉ M0 → H0 b = some o → b ≠ a := fun b o hb eb z => by
    subst z
    obtain ⟨m, em, nm⟩ := st.base.cel
    rw [em] at ma
    rcases List.mem_append.mp ma with h | h
    · exact hb h
    · rw [nm b h] at eb; cases eb
  refine ⟨⟨fun b o mb eb => by rw [upd_ne (hH0 b o mb eb)]; exact st.base.keep b o mb eb, fun b eb => ?_, st.base.frz, sub, st.base.own, st.base.cel⟩, st.len, ?_, fun j sv ej => ?_, st.inj, st.fr⟩
  · by_cases h : b = a
    · rw [h, upd_same]; exact fun z => nomatch z
    · rw [upd_ne h]; exact st.base.there b eb
  · refine ⟨st.cls.nd, ?_⟩
    have : ∀ {N : List Addr} {T : Store} {r : Nat}, N.Nodup → Paired (CelAt K F H) N T → N[r]? = some a → Paired (CelAt K F (upd H a (.lst vs))) N (T.set r ds) := by
      intro N T r nd p
      induction p generalizing r with
      | nil => intro e; simp at e
      | cons h t ih =>
        intro e
        rename_i b d N' T'
        rw [List.nodup_cons] at nd
        have keep : ∀ {N : List Addr} {T : Store}, Paired (CelAt K F H) N T → a ∉ N → Paired (CelAt K F (upd H a (.lst vs))) N T := by
          intro N T p
          induction p with
          | nil => intro _; exact .nil
          | cons h t ih =>
            intro hm
            simp only [List.mem_cons, not_or] at hm
            obtain ⟨f, us, q, z, r⟩ := h
            exact .cons ⟨f, us, by rw [upd_ne (Ne.symm hm.1)]; exact q, z, r⟩ (ih hm.2)
        cases r with
        | zero =>
          simp at e
          subst e
          exact .cons ⟨fa, vs, upd_same, z, rr⟩ (keep t nd.1)
        | succ r =>
          have e : N'[r]? = some a := by simpa using e
          have hb : b ≠ a := fun z => nd.1 (by rw [z]; exact List.mem_of_getElem? e)
          obtain ⟨f, us, q, z, r'⟩ := h
          exact .cons ⟨f, us, by rw [upd_ne hb]; exact q, z, r'⟩ (ih nd.2 e)
    exact this st.cls.nd st.cls.at_ e
  · obtain ⟨v, e3, e4⟩ := st.slots j sv ej
    refine ⟨v, e3, ?_⟩
    rcases st.fr j sv ej with f | ⟨o2, rfl⟩
    · exact RSV.free f e4
    · unfold RSV at e4 ⊢
      obtain ⟨b, rfl, n0, fb, mb, ob⟩ := e4
      have hb : b ≠ a := fun z => mb (by rw [z]; exact ma)
      refine ⟨b, rfl, n0, fb, mb, ?_⟩
      cases o2 with
      | lst ds => obtain ⟨vs, q, z, rr⟩ := ob; exact ⟨vs, by rw [upd_ne hb]; exact q, z, rr⟩
      | dct kvs =>
        obtain ⟨o, ks, vs, q, d, r1, r2⟩ := ob
        exact ⟨o, ks, vs, by rw [upd_ne hb]; exact q, d, r1, r2⟩
end
end DL

/-! The data layer, part 15: statements keep what the plain words say. -/
namespace DL
open PySem PySem.Spec PyProof.Rows L2
section
variable {X : Cx} {G : Pg} {E : Ev} {k : Nat} {c : Cn}
theorem asg_imp {w : World} {K : Frg} {i : Nat} {e : Ex} {tl : TE} {D : Ends} {σ : L2.St} {H : Hp} (h : ∀ σ H Q, tM w K (fun sl S => evE E sl S e) σ H Q → tl σ H Q) (hh : tS w K (fun sl S => exS E sl S (.asg (.nm i) e)) D σ H) : tAsg tl (gName i) D σ H := by
  obtain ⟨F0, M0, H0, F, M, S, sl, out, st, e1, q⟩ := hh
  dsimp only at e1
  unfold exS at e1
  refine h _ _ _ ?_
  split at e1
  · rename_i v S1 e2
    cases e1
    exact tM_then st e2 fun F1 M1 H1 v1 x1 st1 r1 n1 => q F1 M1 _ H1 x1.frz (st.put x1 st1 r1 n1 (.inl ⟨_, rfl, rfl⟩))
  · rename_i o S1 e2
    cases e1
    exact tM_then st e2 fun F1 M1 H1 v1 x1 st1 r1 n1 => q F1 M1 _ H1 x1.frz (st.put x1 st1 r1 n1 (.inr ⟨_, rfl, rfl⟩))
  · cases e1
theorem sw_lc (elt : Expr) (gs : List Comprehension) (scope : Scope) (pos : Pos) (y : Str) (py : Pos) (l : Nat) (env : Env) : ∃ b, swapsWith (.ListComp elt gs scope pos) (some (.Name y py)) l env = pure b ∧ (b = true → env.scope.names.lookup y = some .local) :=
  ⟨_, rfl, fun h => by simp only [Bool.and_eq_true] at h; exact eq_of_beq h.1.1.2⟩
theorem sw_dc (kx vx : Expr) (gs : List Comprehension) (scope : Scope) (pos : Pos) (y : Str) (py : Pos) (l : Nat) (env : Env) : ∃ b, swapsWith (.DictComp kx vx gs scope pos) (some (.Name y py)) l env = pure b ∧ (b = true → env.scope.names.lookup y = some .local) :=
  ⟨_, rfl, fun h => by simp only [Bool.and_eq_true] at h; exact eq_of_beq h.1.1.2⟩
theorem chE_comp {e : Ex} {a : Expr} (h : chE G c e a = true) : notComp a = true ∨ (∃ elt tg it cd own, e = .lc elt tg it cd own) ∨ (∃ elt tg it cd tg1 it1 cd1 own own1, e = .lc2 elt tg it cd tg1 it1 cd1 own own1) ∨ ∃ kk vv tg it cd own, e = .dc kk vv tg it cd own := by
  cases e with
  | lc elt tg it cd own => exact .inr (.inl ⟨_, _, _, _, _, rfl⟩)
  | lc2 elt tg it cd tg1 it1 cd1 own own1 => exact .inr (.inr (.inl ⟨_, _, _, _, _, _, _, _, _, rfl⟩))
  | dc kk vv tg it cd own => exact .inr (.inr (.inr ⟨_, _, _, _, _, _, rfl⟩))
  | _ =>
    refine .inl ?_
    cases a <;> first | rfl | (unfold chE at h; cases h)
theorem r_asg (T : Ctx X G E k) (C : CnOk X c) {i : Nat} {x : Str} {px pos : Pos} {e : Ex} {a : Expr} (h1 : slotB c i x = true) (h2 : locB c x = true) (h : chE G c e a = true) : PS X (.Assign [.Name x px] a pos) (tS X.w X.K fun sl S => exS E sl S (.asg (.nm i) e)) := by
  obtain ⟨l1, l2⟩ := C.loc h2
  have hN := C.slot h1
  have gen : swapsWith a (some (.Name x px)) pos.line X.env = pure false → PS X (.Assign [.Name x px] a pos) (tS X.w X.K fun sl S => exS E sl S (.asg (.nm i) e)) := fun hs =>
    PS.imp (ps_set T.nd hN l1 (sE e X c a T C h).pe hs l2) fun D σ H hh => asg_imp (fun _ _ _ q => q) hh
  rcases chE_comp h with hc | ⟨elt, tg, it, cd, own, rfl⟩ | ⟨elt, tg, it, cd, tg1, it1, cd1, own, own1, rfl⟩ | ⟨kk, vv, tg, it, cd, own, rfl⟩
  · exact gen (sw_no hc)
  · obtain ⟨e, t, ii, ifs, scope, cpos, rfl, h1, h2, h3, h4, h5, h6⟩ := i_lc h
    obtain ⟨b, hb, hl⟩ := sw_lc e [⟨t, ii, ifs, 0⟩] scope cpos x px pos.line X.env
    cases b with
    | false => exact gen hb
    | true =>
      obtain ⟨tl, p1, p2, p3⟩ := r_lc (pos := cpos) T.calm T.nd (ownOf_ix _ _) (sI it X c t ii T C h1) (blkOk_of C h2) (fun s H K cl fp => r_tg (T.blk s H scope _ fp).calm (T.blk s H scope _ fp).nd (C.blk s H scope K cl fp) h3) (fun s H K cl fp => sC cd _ _ ifs (T.blk s H scope _ fp) (C.blk s H scope K cl fp) h5)
        (fun s H K cl fp => (sE elt _ _ e (T.blk s H scope _ fp) (C.blk s H scope K cl fp) h6).pe) (fun x => chI_nf h1 _ x) (subNs_of h4)
      exact PS.imp (p2 x px i pos hN (hl rfl) hb) fun D σ H hh => asg_imp p3 hh
  · obtain ⟨e, t, ii, ifs, t1, i1, ifs1, scope, cpos, rfl, h1, h2, h3, h4, h5, h6, h7, h8, h9, h10, h11⟩ := i_lc2 h
    obtain ⟨b, hb, hl⟩ := sw_lc e [⟨t, ii, ifs, 0⟩, ⟨t1, i1, ifs1, 0⟩] scope cpos x px pos.line X.env
    cases b with
    | false => exact gen hb
    | true =>
      obtain ⟨tl, p1, p2, p3⟩ := r_lc2 (pos := cpos) T.calm T.nd (ownOf_ix _ _) (sI it X c t ii T C h1) (blkOk_of C h2) (fun s H K cl fp => r_tg (T.blk s H scope _ fp).calm (T.blk s H scope _ fp).nd (C.blk s H scope K cl fp) h3) (fun s H K cl fp => sC cd _ _ ifs (T.blk s H scope _ fp) (C.blk s H scope K cl fp) h5)
        (fun s H K cl fp => sI it1 _ _ t1 i1 (T.blk s H scope _ fp) (C.blk s H scope K cl fp) h6) (fun s H K cl fp => r_tg (T.blk s H scope _ fp).calm (T.blk s H scope _ fp).nd (C.blk s H scope K cl fp) h7) (fun s H K cl fp => sC cd1 _ _ ifs1 (T.blk s H scope _ fp) (C.blk s H scope K cl fp) h10)
        (fun s H K cl fp => (sE elt _ _ e (T.blk s H scope _ fp) (C.blk s H scope K cl fp) h11).pe) (fun x => chI_nf h1 _ x) (fun env x => chI_nf h6 env x) (subNs_of h4) (subNs_of h8) (subNs_of h9)
      exact PS.imp (p2 x px i pos hN (hl rfl) hb) fun D σ H hh => asg_imp p3 hh
  · obtain ⟨ke, ve, t, ii, ifs, scope, cpos, rfl, h1, h2, h3, h4, h5, h6, h7⟩ := i_dc h
    obtain ⟨b, hb, hl⟩ := sw_dc ke ve [⟨t, ii, ifs, 0⟩] scope cpos x px pos.line X.env
    cases b with
    | false => exact gen hb
    | true =>
      obtain ⟨tl, p1, p2, p3⟩ := r_dc (pos := cpos) T.calm T.nd (ownOf_ix _ _) (sI it X c t ii T C h1) (blkOk_of C h2) (fun s H K cl fp => r_tg (T.blk s H scope _ fp).calm (T.blk s H scope _ fp).nd (C.blk s H scope K cl fp) h3) (fun s H K cl fp => sC cd _ _ ifs (T.blk s H scope _ fp) (C.blk s H scope K cl fp) h5)
        (fun s H K cl fp => (sE kk _ _ ke (T.blk s H scope _ fp) (C.blk s H scope K cl fp) h6).pe) (fun s H K cl fp => (sE vv _ _ ve (T.blk s H scope _ fp) (C.blk s H scope K cl fp) h7).pe) (fun x => chI_nf h1 _ x) (subNs_of h4)
      exact PS.imp (p2 x px i pos hN (hl rfl) hb) fun D σ H hh => asg_imp p3 hh
theorem r_asgT (T : Ctx X G E k) (C : CnOk X c) {is : List Nat} {es : List Expr} {k2 : Nat} {tp pos : Pos} {e : Ex} {a : Expr} (hg : chNs c is es = true) (h : chE G c e a = true) (hn : notTup a = true) : PS X (.Assign [.Tuple es k2 tp] a pos) (tS X.w X.K fun sl S => exS E sl S (.asg (.tp is) e)) := by
  refine PS.imp (ps_asg (sE e X c a T C h).pe (r_tg T.calm T.nd C (tg := .tp is) (by unfold chG; exact hg)) sw_tup (sws_no hn) rfl) fun D σ H hh => ?_
  obtain ⟨F0, M0, H0, F, M, S, sl, out, st, e1, q⟩ := hh
  dsimp only at e1
  unfold exS at e1
  split at e1
  · rename_i v S1 e2
    obtain ⟨sl1, e3, e4⟩ := Option.map_eq_some_iff.mp e1
    cases e4
    refine tX_of (tX_then st e2 fun F1 M1 H1 v1 x1 st1 f1 q1 => ?_)
    exact ⟨F0, M0, H0, F1, M1, _, sl, v, sl1, st1, f1, q1, e3, fun σ' _ st' => q F1 M1 σ' H1 x1.frz st'⟩
  · cases e1

/-! ### several at once -/
theorem setRs_len : ∀ {is : List Nat} {rs : List RV} {sl sl' : Slots}, setRs is rs sl = some sl' → is.length = rs.length
  | [], [], _, _, _ => rfl
  | i :: is, r :: rs, sl, sl', e => by
    unfold setRs at e
    split at e
    · cases ‹(_ :: _ : List Nat) = []›
    · rename_i hi hr
      cases hi; cases hr
      rw [List.length_cons, List.length_cons, setRs_len e]
    · rename_i hi hr
      cases hi; cases hr
      rw [List.length_cons, List.length_cons, setRs_len e]
    · cases e
  | [], _ :: _, _, _, e => by unfold setRs at e; cases e
  | _ :: _, [], _, _, e => by unfold setRs at e; cases e
def setVs : List Nat → List V → L2.St → L2.St
  | i :: is, v :: vs, σ => setVs is vs (σ.set i (some v))
  | _, _, σ => σ
theorem setRs_ok {w : World} {K : Frg} {F0 H0 F H : Hp} {M0 M : List Addr} {S : Store} : ∀ {is : List Nat} {rs : List RV} {vs : List V} {sl sl' : Slots} {σ : L2.St} {Hs : Hp}, Stt w K F0 M0 H0 F M S sl σ H → RRs w K H0 F M H vs rs → Fresh Hs vs rs → setRs is rs sl = some sl' →
    (∀ (j : Nat) u a, sl[j]? = some (some (.own u)) → σ[j]? = some (some (.ref a)) → Hs a ≠ none) → Stt w K F0 M0 H0 F M S sl' (setVs is vs σ) H
  | [], [], vs, sl, sl', σ, Hs, st, h, fr, e, n => by
    cases e
    exact st
  | i :: is, r :: rs, v :: vs, sl, sl', σ, Hs, st, hh, fr, e, n => by
    cases hh
    rename_i h t
    obtain ⟨n1, H1, n2, n3, n4⟩ := fr
    unfold setRs at e
    split at e
    · cases ‹(_ :: _ : List Nat) = []›
    · rename_i i' is' s rs' hi hr
      cases hi; cases hr
      show Stt w K F0 M0 H0 F M S sl' (setVs is vs (σ.set i (some v))) H
      refine setRs_ok (st.set i h.1 h.2) t n4 e fun j u a e1 e2 => ?_
      have hj : i ≠ j := fun z => by
        subst z
        rcases (fr_set (.inl h.1) st.fr) i (.own u) e1 with f | ⟨o, _⟩
        · cases f
        · rw [List.getElem?_set_self (by have := (List.getElem?_eq_some_iff.mp e1).1; simpa using this)] at e1
          cases e1
          cases h.1
      rw [List.getElem?_set_ne hj] at e1 e2
      exact n2 a (n j u a e1 e2)
    · rename_i i' is' o rs' hi hr
      cases hi; cases hr
      obtain ⟨a, rfl, h0, q⟩ := h
      have na : Hs a = none := n1 a rfl
      show Stt w K F0 M0 H0 F M S sl' (setVs is vs (σ.set i (some (.ref a)))) H
      refine setRs_ok (st.setOwn i h0 q fun j u e1 e2 => n j u a e1 e2 na) t n4 e fun j u b e1 e2 => ?_
      by_cases hj : i = j
      · subst hj
        rw [List.getElem?_set_self (by rw [← st.len]; have := (List.getElem?_eq_some_iff.mp e1).1; simpa using this)] at e2
        cases e2
        exact n3 a o rfl rfl
      · rw [List.getElem?_set_ne hj] at e1 e2
        exact n2 b (n j u b e1 e2)
    · cases e
  | [], _ :: _, _, _, _, _, _, _, _, _, e, _ => by unfold setRs at e; cases e
  | _ :: _, [], _, _, _, _, _, _, _, _, e, _ => by unfold setRs at e; cases e
theorem gNs_set {Q : L2.St → Hp → Prop} {H : Hp} : ∀ {is : List Nat} {vs : List V} {σ : L2.St}, is.length = vs.length → Q (setVs is vs σ) H → gNs is vs σ H Q
  | [], [], σ, _, q => ⟨rfl, q⟩
  | i :: is, v :: vs, σ, hl, q => ⟨v, vs, rfl, gNs_set (σ := σ.set i (some v)) (by simpa using hl) q⟩
  | [], _ :: _, _, hl, _ => by simp at hl
  | _ :: _, [], _, hl, _ => by simp at hl
theorem RRs.len {w : World} {K : Frg} {H0 F H : Hp} {M : List Addr} {vs : List V} {rs : List RV} (h : RRs w K H0 F M H vs rs) : vs.length = rs.length := Paired.length h
theorem r_par (T : Ctx X G E k) (C : CnOk X c) (hk : X.env.scope.kind = .function) {is : List Nat} {es : Exs} {ts vs : List Expr} {k2 k3 : Nat} {tp vp pos : Pos} (hg : chNs c is ts = true) (h : chEs G c es vs = true) (hw : parB c is ts vs = true) (nd : is.Nodup) :
    PS X (.Assign [.Tuple ts k2 tp] (.Tuple vs k3 vp) pos) (tS X.w X.K fun sl S => exS E sl S (.par is es)) := by
  have main : ∀ {D : Ends} {σ : L2.St} {H : Hp}, tS X.w X.K (fun sl S => exS E sl S (.par is es)) D σ H → tAs X.w X.K (fun sl S => evEs E sl S es) σ H fun ws H1 => is.length = ws.length ∧ ∃ F M S sl F0 M0 H0, Stt X.w X.K F0 M0 H0 F M S sl (setVs is ws σ) H1 ∧ (∀ F' M' H', Sub F F' → Stt X.w X.K F0 M0 H0 F' M' S sl (setVs is ws σ) H' → D.nx (setVs is ws σ) H') := by
    intro D σ H hh
    obtain ⟨F0, M0, H0, F, M, S, sl, out, st, e1, q⟩ := hh
    dsimp only at e1
    unfold exS at e1
    split at e1
    · rename_i rs S1 e2
      split at e1
      · rename_i sl1 e3
        cases e1
        refine tA_then st e2 fun F1 M1 H1 ws x1 st1 r1 n1 => ⟨by rw [setRs_len e3, r1.len], F1, M1, S1, sl1, F0, M0, H0, setRs_ok st1 r1 n1 e3 fun j u a e4 e5 z => ?_, fun F' M' H' sF st' => q F' M' _ H' (x1.frz.trans sF) st'⟩
        obtain ⟨v, e6, e7⟩ := st.slots j _ e4
        rw [e5] at e6; cases e6
        unfold RSV at e7
        obtain ⟨b, eb, _, q'⟩ := e7
        cases eb
        exact q'.2.2.some z
      · cases e1
    · cases e1
  have pa := sEs es X c vs T C h
  have hlen := chNs_len hg
  unfold parB at hw
  split at hw
  · rename_i hr
    have hsw := swB_ok (k := k2) (k2 := k3) (p := tp) (p2 := vp) hk (by rw [C.sc]; exact hr)
    obtain ⟨a1, a2, a3⟩ := assignEach_names (env := X.env) hg
    refine PS.imp (ps_asg (pe_tup pa) (pg_tup T.calm (g_names T.nd C hg) (n := ts.length) a2 a3) sw_tup hsw rfl) fun D σ H hh => ?_
    have hz : ts.length ≤ 64 := of_decide_eq_true hw
    obtain ⟨F0, M0, H0, F, M, S, sl, rs, S', st, e, kk⟩ := main hh
    refine tA_then st e fun F1 M1 H1 ws x1 st1 r1 n1 => ?_
    obtain ⟨hl, F2, M2, S2, sl2, F20, M20, H20, st2, q⟩ := kk F1 M1 H1 ws x1 st1 r1 n1
    refine ⟨by rw [← hl, hlen, sizeLine_eq]; omega, fun p hp => ⟨p, ws, rfl, SqT.of upd_same, by rw [← hl, hlen], gNs_set hl (q F2 M2 _ (Sub.refl _) (st2.new hp))⟩⟩
  · rename_i ns hr
    have hsw := swB_ok (k := k2) (k2 := k3) (p := tp) (p2 := vp) hk (by rw [C.sc]; exact hr)
    split at hw
    · rename_i i j x px y py a b
      simp only [Bool.and_eq_true, decide_eq_true_eq] at hw
      obtain ⟨⟨rfl, hx⟩, hy⟩ := hw
      simp only [chNs, chN, Bool.and_eq_true] at hg
      refine PS.imp (ps_par T.calm T.nd (C.slot hg.1.1) (C.slot hg.2.1.1) (by simpa using nd) (by rw [C.sc]; exact eq_of_beq hx) (by rw [C.sc]; exact eq_of_beq hy) pa hsw) fun D σ H hh => ?_
      obtain ⟨F0, M0, H0, F, M, S, sl, rs, S', st, e, kk⟩ := main hh
      refine tA_then st e fun F1 M1 H1 ws x1 st1 r1 n1 => ?_
      obtain ⟨hl, F2, M2, S2, sl2, F20, M20, H20, st2, q⟩ := kk F1 M1 H1 ws x1 st1 r1 n1
      match ws, hl with
      | [u, v], _ => exact ⟨u, v, rfl, q F2 M2 _ (Sub.refl _) st2⟩
    · rename_i i j l x px y py z pz a b d
      simp only [Bool.and_eq_true, decide_eq_true_eq] at hw
      obtain ⟨⟨⟨rfl, hx⟩, hy⟩, hz⟩ := hw
      simp only [chNs, chN, Bool.and_eq_true] at hg
      have nd' : (i ≠ j ∧ i ≠ l) ∧ j ≠ l := by simpa using nd
      refine PS.imp (ps_par3 T.calm T.nd (C.slot hg.1.1) (C.slot hg.2.1.1) (C.slot hg.2.2.1.1) nd'.1.1 nd'.1.2 nd'.2 (by rw [C.sc]; exact eq_of_beq hx) (by rw [C.sc]; exact eq_of_beq hy) (by rw [C.sc]; exact eq_of_beq hz) pa hsw) fun D σ H hh => ?_
      obtain ⟨F0, M0, H0, F, M, S, sl, rs, S', st, e, kk⟩ := main hh
      refine tA_then st e fun F1 M1 H1 ws x1 st1 r1 n1 => ?_
      obtain ⟨hl, F2, M2, S2, sl2, F20, M20, H20, st2, q⟩ := kk F1 M1 H1 ws x1 st1 r1 n1
      match ws, hl with
      | [u, v, w], _ => exact ⟨u, v, w, rfl, q F2 M2 _ (Sub.refl _) st2⟩
    · cases hw
  · cases hw
end
end DL

/-! The data layer, part 16: statements, the rest. -/
namespace DL
open PySem PySem.Spec PyProof.Rows L2
section
variable {X : Cx} {G : Pg} {E : Ev} {k : Nat} {c : Cn}
theorem PSet.or {t t' : TSet} (h : PSet X t) (h' : PSet X t') : PSet X (fun o i v H Q => t o i v H Q ∨ t' o i v H Q) := by
  intro pins s σ H o i v ov iv u Q I ro ri rv q
  rcases q with q | q
  · exact h pins s σ H o i v ov iv u Q I ro ri rv q
  · exact h' pins s σ H o i v ov iv u Q I ro ri rv q
theorem OwnAt.lst {w : World} {K : Frg} {F H : Hp} {M : List Addr} {a : Addr} {ds : List D} (h : OwnAt w K F M H a (.lst ds)) : ∃ vs, H a = some (.lst vs) ∧ vs.length ≤ sizeLine ∧ Rps K F vs ds := h.2.2
theorem own_inv {w : World} {K : Frg} {F0 H0 F H : Hp} {M0 M : List Addr} {S : Store} {sl : Slots} {σ : L2.St} {i : Nat} {o : OV} (st : Stt w K F0 M0 H0 F M S sl σ H) (e : sl[i]? = some (some (.own o))) : ∃ a, σ[i]? = some (some (.ref a)) ∧ H0 a = none ∧ OwnAt w K F M H a o := by
  obtain ⟨v, e1, e2⟩ := st.slots i _ e
  unfold RSV at e2
  obtain ⟨a, rfl, h0, q⟩ := e2
  exact ⟨a, e1, h0, q⟩
theorem r_put (T : Ctx X G E k) (C : CnOk X c) {i : Nat} {x : Str} {px sp pos : Pos} {kk e : Ex} {y a : Expr} (h1 : slotB c i x = true) (h2 : visB c.sc x = true) (h3 : isDbg x = false) (hk : chE G c kk y = true) (he : chE G c e a = true) (hn : notComp a = true) (hix : plainIxB y = true) (ht : ∀ ts, ts = [Expr.Subscript (.Name x px) y sp] → swappedStores ts a X.env = pure none) :
    PS X (.Assign [.Subscript (.Name x px) y sp] a pos) (tS X.w X.K fun sl S => exS E sl S (.put i kk e)) := by
  have := T.units
  have hsw : swapsWithSole [.Subscript (.Name x px) y sp] a pos.line X.env = pure false := by
    cases a <;> first | rfl | cases hn
  refine PS.imp (ps_asg (sE e X c a T C he).pe (pg_sub (pe_var (i := i) (C.slot h1) (C.vis h2) (dbg1 h3) (dbg2 h3)) (sE kk X c y T C hk).pe (PSet.or set_list (set_dct (by omega))) (by intro v; cases y <;> first | rfl | cases hix)) hsw (ht _ rfl) rfl) fun D σ H hh => ?_
  obtain ⟨F0, M0, H0, F, M, S, sl, out, st, e1, q⟩ := hh
  dsimp only at e1
  unfold exS at e1
  split at e1
  · rename_i v S1 e2
    split at e1
    · rename_i dk S2 e3
      obtain ⟨p, e4, e5⟩ := Option.map_eq_some_iff.mp e1
      cases e5
      refine tX_of (tX_then st (dat_inv e2) fun F1 M1 H1 v1 x1 st1 f1 q1 => ?_)
      have q1 := dat_rp q1
      have fin : ∀ {v0 : V}, σ[i]? = some (some v0) → (∀ F2 M2 H2 v2, Sub F F2 → Rp X.K F2 v1 v → Stt X.w X.K F0 M0 H0 F2 M2 S2 sl σ H2 → Rp X.K F2 v2 dk → rSetL v0 v2 v1 H2 (fun H3 => D.nx σ H3) ∨ rSetK X.w X.K v0 v2 v1 H2 (fun H3 => D.nx σ H3)) → gSub (tVar i) (tM X.w X.K fun sl S => evE E sl S kk) (fun o i v H Q => rSetL o i v H Q ∨ rSetK X.w X.K o i v H Q) v1 σ H1 D.nx := by
        intro v0 ev g
        refine ⟨v0, ev, tX_of (tX_then st1 (dat_inv e3) fun F2 M2 H2 v2 x2 st2 f2 q2 => ?_)⟩
        exact g F2 M2 H2 v2 (x1.frz.trans x2.frz) (Rp.sub x2.frz q1) st2 (dat_rp q2)
      unfold putS at e4
      split at e4
      · rename_i r er
        obtain ⟨v0, ev, rv⟩ := st1.slots i _ er
        unfold RSV at rv
        obtain ⟨b, rfl, eb⟩ := rv
        refine fin ev fun F2 M2 H2 v2 sF q1 st2 q2 => .inl ?_
        split at e4
        · rename_i ds j es
          split at e4
          · rename_i m em
            cases e4
            obtain ⟨v', ev', rv'⟩ := st2.slots i _ er
            rw [ev] at ev'; cases ev'
            unfold RSV at rv'
            obtain ⟨b', eb', hM⟩ := rv'
            cases eb'
            obtain ⟨a', ha', hc⟩ := st2.cls.get es
            rw [hM] at ha'; cases ha'
            obtain ⟨_, vs, hH, z, rr⟩ := hc
            cases q2.int_inv
            refine ⟨b, vs, j, m, rfl, rfl, hH, by rw [rr.length]; exact em, ?_⟩
            exact q F2 M2 σ _ sF (st2.cel hM (by rw [List.length_set]; exact z) (Rps.set q1 m rr))
          · cases e4
        · cases e4
      · rename_i ds er
        obtain ⟨b, ev, _, _⟩ := own_inv st1 er
        refine fin ev fun F2 M2 H2 v2 sF q1 st2 q2 => .inl ?_
        obtain ⟨b', ev', h0, ow⟩ := own_inv st2 er
        rw [ev] at ev'; cases ev'
        split at e4
        · rename_i j
          split at e4
          · rename_i m em
            cases e4
            obtain ⟨vs, hH, z, rr⟩ := ow.lst
            cases q2.int_inv
            refine ⟨b, vs, j, m, rfl, rfl, hH, by rw [rr.length]; exact em, ?_⟩
            exact q F2 M2 σ _ sF (st2.mut er ev h0 ow ⟨vs.set m v1, upd_same, by rw [List.length_set]; exact z, Rps.set q1 m rr⟩)
          · cases e4
        · cases e4
      · rename_i kvs er
        obtain ⟨b, ev, _, _⟩ := own_inv st1 er
        refine fin ev fun F2 M2 H2 v2 sF q1 st2 q2 => .inr ?_
        obtain ⟨b', ev', h0, ow⟩ := own_inv st2 er
        rw [ev] at ev'; cases ev'
        split at e4
        · rename_i hf
          cases e4
          exact ⟨F2, b, kvs, dk, v, rfl, st2.sub, ow.1, q2, q1, ow.2.2, hf.1, hf.2, fun u hu => q F2 M2 σ _ sF (st2.mut er ev h0 ow hu)⟩
        · cases e4
      · cases e4
    · cases e1
  · cases e1
theorem r_app (T : Ctx X G E k) (C : CnOk X c) {i : Nat} {x : Str} {px apos pos pos2 : Pos} {e : Ex} {a : Expr} (h1 : slotB c i x = true) (h2 : visB c.sc x = true) (h3 : isDbg x = false) (hl : apos.endLine = pos.line) (he : chE G c e a = true) :
    PS X (.Expr (.Call (.Attribute (.Name x px) "append" apos) [a] [] pos) pos2) (tS X.w X.K fun sl S => exS E sl S (.app i e)) := by
  have hn := chE_ns he
  refine PS.imp (ps_expr (pe_bm F.plainAttrs_list F.slot_list_append F.type_list_append mt_append (pe_var (i := i) (C.slot h1) (C.vis h2) (dbg1 h3) (dbg2 h3)) (pa_cons (sE e X c a T C he).pe pa_nil (star_cons hn)) rfl (by rw [star_one hn]; rfl) (by rw [hl]; exact beq_self_eq_true _) (star_cons hn) rfl) rfl) fun D σ H hh => ?_
  obtain ⟨F0, M0, H0, F, M, S, sl, out, st, e1, q⟩ := hh
  dsimp only at e1
  unfold exS at e1
  split at e1
  · rename_i v S1 e2
    split at e1
    · rename_i ds er
      split at e1
      · rename_i hz
        cases e1
        obtain ⟨b, ev, h0, ow⟩ := own_inv st er
        obtain ⟨vs, hH, z, rr⟩ := ow.lst
        refine ⟨_, ev, .inl ⟨rfl, vs, SqL.of hH⟩, ?_⟩
        refine tX_of (tX_then st (dat_inv e2) fun F1 M1 H1 v1 x1 st1 f1 q1 => ?_)
        have q1 := dat_rp q1
        obtain ⟨b', ev', h0', ow'⟩ := own_inv st1 er
        rw [ev] at ev'; cases ev'
        obtain ⟨vs', hH', z', rr'⟩ := ow'.lst
        have hlen := rr'.length
        have hz : ds.length < 16777216 := hz
        refine ⟨b, vs', v1, rfl, rfl, hH', by rw [sizeLine_eq]; omega, ?_⟩
        exact q F1 M1 σ _ x1.frz (st1.mut er ev h0' ow' ⟨vs' ++ [v1], upd_same, by rw [List.length_append, List.length_singleton, sizeLine_eq]; omega, rr'.append (.cons q1 .nil)⟩)
      · cases e1
    · cases e1
  · cases e1
theorem r_pop (T : Ctx X G E k) (C : CnOk X c) {i j : Nat} {x y : Str} {px py apos pos pos2 : Pos} (h1 : slotB c i x = true) (h2 : visB c.sc x = true) (h3 : isDbg x = false) (hl : apos.endLine = pos.line) (h4 : slotB c j y = true) (h5 : locB c y = true) :
    PS X (.Assign [.Name y py] (.Call (.Attribute (.Name x px) "pop" apos) [] [] pos) pos2) (tS X.w X.K fun sl S => exS E sl S (.pop j i)) := by
  obtain ⟨l1, l2⟩ := C.loc h5
  refine PS.imp (ps_set T.nd (C.slot h4) l1 (pe_bm0 F.plainAttrs_list F.slot_list_pop F.type_list_pop mt_pop (pe_var (i := i) (C.slot h1) (C.vis h2) (dbg1 h3) (dbg2 h3)) rfl (by rw [hl]; exact beq_self_eq_true _)) rfl l2) fun D σ H hh => ?_
  obtain ⟨F0, M0, H0, F, M, S, sl, out, st, e1, q⟩ := hh
  dsimp only at e1
  unfold exS at e1
  split at e1
  · rename_i ds er
    split at e1
    · rename_i d ed
      split at e1
      · cases e1
      · rename_i hij
        cases e1
        obtain ⟨b, ev, h0, ow⟩ := own_inv st er
        obtain ⟨vs, hH, z, rr⟩ := ow.lst
        have hd : ds[ds.length - 1]? = some d := by rw [← ed, List.getLast?_eq_getElem?]
        obtain ⟨v, hv, rv⟩ := rr.get hd
        refine ⟨_, ev, .inl ⟨rfl, vs, SqL.of hH⟩, b, vs, v, rfl, rfl, hH, by rw [rr.length]; exact hv, ?_⟩
        have st2 := st.mut (u := .lst vs.dropLast) er ev h0 ow (o' := .lst ds.dropLast) ⟨vs.dropLast, upd_same, by rw [List.length_dropLast]; omega, by rw [List.dropLast_eq_take, List.dropLast_eq_take, rr.length]; exact Rps.take _ rr⟩
        exact q F M _ _ (Sub.refl _) (st2.set j (d := .val d) rfl (rsv_d rv))
    · cases e1
  · cases e1
end
end DL

/-! The data layer, part 17: control; every statement. -/
namespace DL
open PySem PySem.Spec PyProof.Rows L2
section
variable {X : Cx} {G : Pg} {E : Ev} {k : Nat} {c : Cn}
theorem sws_sub {o i a : Expr} {p : Pos} {env : Env} : ∀ ts, ts = [Expr.Subscript o i p] → swappedStores ts a env = pure none := by
  rintro _ rfl
  cases a <;> rfl
theorem r_ret (T : Ctx X G E k) {e : Ex} {a : Expr} {pos : Pos} (h : PE X a (tM X.w X.K fun sl S => evE E sl S e)) : PS X (.Return (some a) pos) (tS X.w X.K fun sl S => exS E sl S (.ret e)) := by
  refine PS.imp (ps_ret h) fun D σ H hh => ?_
  obtain ⟨F0, M0, H0, F, M, S, sl, out, st, e1, q⟩ := hh
  dsimp only at e1
  unfold exS at e1
  split at e1
  · rename_i v S1 e2
    split at e1
    · rename_i hf
      cases e1
      exact tX_of (tX_then st e2 fun F1 M1 H1 v1 x1 st1 f1 q1 => q F1 M1 H1 v1 x1.frz st1.base st1.cls f1 q1)
    · cases e1
  · cases e1
theorem r_retN {pos : Pos} : PS X (.Return none pos) (tS X.w X.K fun sl S => exS E sl S .retN) := by
  refine PS.imp ps_retN fun D σ H hh => ?_
  obtain ⟨F0, M0, H0, F, M, S, sl, out, st, e1, q⟩ := hh
  dsimp only at e1
  unfold exS at e1
  cases e1
  exact q F M H .non (Sub.refl _) st.base st.cls rfl (rsv_d .non)
theorem r_expr {e : Ex} {a : Expr} {pos : Pos} (h : PE X a (tM X.w X.K fun sl S => evE E sl S e)) (hn : notComp a = true) : PS X (.Expr a pos) (tS X.w X.K fun sl S => exS E sl S (.expr e)) := by
  refine PS.imp (ps_expr h (sw_no hn)) fun D σ H hh => ?_
  obtain ⟨F0, M0, H0, F, M, S, sl, out, st, e1, q⟩ := hh
  dsimp only at e1
  unfold exS at e1
  split at e1
  · rename_i r S1 e2
    cases e1
    exact tM_then st e2 fun F1 M1 H1 v1 x1 st1 r1 n1 => q F1 M1 σ H1 x1.frz st1
  · cases e1
theorem r_pass {pos : Pos} : PS X (.Pass pos) (tS X.w X.K fun sl S => exS E sl S .pass) := by
  refine PS.imp ps_pass fun D σ H hh => ?_
  obtain ⟨F0, M0, H0, F, M, S, sl, out, st, e1, q⟩ := hh
  dsimp only at e1
  unfold exS at e1
  cases e1
  exact q F M σ H (Sub.refl _) st
theorem r_brk {pos : Pos} : PS X (.Break pos) (tS X.w X.K fun sl S => exS E sl S .brk) := by
  refine PS.imp ps_break fun D σ H hh => ?_
  obtain ⟨F0, M0, H0, F, M, S, sl, out, st, e1, q⟩ := hh
  dsimp only at e1
  unfold exS at e1
  cases e1
  exact q F M σ H (Sub.refl _) st
theorem r_cnt {pos : Pos} : PS X (.Continue pos) (tS X.w X.K fun sl S => exS E sl S .cnt) := by
  refine PS.imp ps_continue fun D σ H hh => ?_
  obtain ⟨F0, M0, H0, F, M, S, sl, out, st, e1, q⟩ := hh
  dsimp only at e1
  unfold exS at e1
  cases e1
  exact q F M σ H (Sub.refl _) st
theorem r_never {a : Stmt} : PS X a (tS X.w X.K fun sl S => exS E sl S .never) := by
  refine PS.imp ps_never fun D σ H hh => ?_
  obtain ⟨F0, M0, H0, F, M, S, sl, out, st, e1, q⟩ := hh
  dsimp only at e1
  unfold exS at e1
  cases e1
theorem r_ife {t : Ex} {a b : Sms} {x : Expr} {as bs : List Stmt} {pos : Pos} (ht : PT X x (tT X.w X.K fun sl S => bool? (evE E sl S t))) (ha : PSs X as (tS X.w X.K fun sl S => exSs E sl S a)) (hb : PSs X bs (tS X.w X.K fun sl S => exSs E sl S b)) :
    PS X (.If x as bs pos) (tS X.w X.K fun sl S => exS E sl S (.ife t a b)) := by
  refine PS.imp (ps_if ht ha hb) fun D σ H hh => ?_
  obtain ⟨F0, M0, H0, F, M, S, sl, out, st, e1, q⟩ := hh
  dsimp only at e1
  unfold exS at e1
  split at e1
  · rename_i S1 e2
    refine tT_then st e2 fun F1 M1 H1 x1 st1 => ?_
    rw [if_pos rfl]
    exact tS_then st1 e1 (q.sub x1.frz)
  · rename_i S1 e2
    refine tT_then st e2 fun F1 M1 H1 x1 st1 => ?_
    rw [if_neg Bool.false_ne_true]
    exact tS_then st1 e1 (q.sub x1.frz)
  · cases e1
/-- a turn's end within a loop -/
def loopO (f : Slots → Store → Option Out) : Option Out → Option Out
  | some (.nx sl S) => f sl S
  | some (.cnt sl S) => f sl S
  | some (.brk sl S) => some (.nx sl S)
  | some (.ret v S) => some (.ret v S)
  | none => none
theorem forGo_cons (f : D → Slots → Store → Option Out) (d : D) (ds : List D) (sl : Slots) (S : Store) : forGo f (d :: ds) sl S = loopO (forGo f ds) (f d sl S) := by
  conv => lhs; unfold forGo
  cases f d sl S with
  | none => rfl
  | some o => cases o <;> rfl
/-- what the body of a loop ends with -/
theorem PostO.loop {w : World} {K : Frg} {F0 H0 F : Hp} {M0 : List Addr} {D : Ends} {N : L2.St → Hp → Prop} {f : Slots → Store → Option Out} {out o : Out} (e : loopO f (some o) = some out) (q : PostO w K F0 M0 H0 F D out)
    (hN : ∀ sl S F' M' σ' H', Sub F F' → f sl S = some out → Stt w K F0 M0 H0 F' M' S sl σ' H' → N σ' H') : PostO w K F0 M0 H0 F { D with nx := N, ct := N, bk := D.nx } o := by
  cases o with
  | nx sl S => exact fun F' M' σ' H' s st => hN sl S F' M' σ' H' s e st
  | cnt sl S => exact fun F' M' σ' H' s st => hN sl S F' M' σ' H' s e st
  | brk sl S => cases e; exact q
  | ret v S => cases e; exact q
theorem r_for (T : Ctx X G E k) (hp : PassesOwn (model X.prog X.w) X.A X.env X.xe) {tg : Tg} {it : Itr} {b : Sms} {t i : Expr} {bs : List Stmt} {pos : Pos} (hi : PI X t i (tI X.w X.K fun sl S => evI E sl S it)) (hg : PG X t (tG X.w X.K tg)) (hb : PSs X bs (tS X.w X.K fun sl S => exSs E sl S b))
    (hs : ∀ x, foldedSetIterable i X.env x = pure x) : PS X (.For t i bs [] pos) (tS X.w X.K fun sl S => exS E sl S (.forr tg it b)) := by
  refine PS.imp (ps_for hp T.calm hi hg hb hs) fun D σ H hh => ?_
  obtain ⟨F0, M0, H0, F, M, S, sl, out, st, e1, q⟩ := hh
  dsimp only at e1
  unfold exS at e1
  split at e1
  · rename_i ds S1 e2
    refine tI_then st e2 fun F1 M1 H1 J x1 st1 wk => ?_
    let f : PyData → Slots → Store → Option Out := fun d sl S => match asgT tg (.val d) sl with
      | some sl1 => exSs E sl1 S b
      | none => none
    have e1 : forGo f ds sl S1 = some out := e1
    refine for_it wk.1 (fun n σ H => ∃ F' M' S' sl', Sub F1 F' ∧ Stt X.w X.K F0 M0 H0 F' M' S' sl' σ H ∧ forGo f (ds.drop n) sl' S' = some out) ⟨F1, M1, S1, sl, Sub.refl _, st1, e1⟩ ?_ ?_ ?_
    · rintro n σ H _ ⟨F', M', S', sl', s, st', _⟩
      exact s.trans st'.sub
    · rintro n v σ H H' hn ⟨F', M', S', sl', s, st', go⟩ yd
      obtain ⟨d, F2, ed, xa, rd, hcase⟩ := xt_cons (M := M') s st'.sub yd
      have cl2 : Cls X.K F2 M' H' S' := by
        rcases hcase with ⟨rfl, rfl⟩ | ⟨T, o, hT, rfl, rfl⟩
        · exact st'.cls
        · exact st'.cls.newF st'.sub hT
      have st2 := st'.xt xa cl2
      have drop : ds.drop n = d :: ds.drop (n + 1) := by
        rw [List.drop_eq_getElem_cons hn]
        have : ds[n] = d := by
          have := List.getElem?_eq_getElem hn
          rw [ed] at this
          exact (Option.some.inj this).symm
        rw [this]
      rw [drop, forGo_cons] at go
      cases ea : asgT tg (.val d) sl' with
      | none => rw [show f d sl' S' = none by simp only [f, ea]] at go; cases go
      | some sl1 =>
        have ef : f d sl' S' = exSs E sl1 S' b := by simp only [f, ea]
        rw [ef] at go
        cases eo : exSs E sl1 S' b with
        | none => rw [eo] at go; cases go
        | some o =>
          rw [eo] at go
          refine ⟨F0, M0, H0, F2, M', S', sl', .val d, sl1, st2, rfl, rsv_d rd, ea, fun σ2 _ st3 => tS_then st3 eo ?_⟩
          refine PostO.loop go (q.sub (x1.frz.trans (s.trans xa.frz))) fun sl S F' M' σ' H' s' e st' => ⟨F', M', S, sl, (s.trans xa.frz).trans s', st', e⟩
    · rintro σ H ⟨F', M', S', sl', s, st', go⟩
      rw [List.drop_eq_nil_of_le (Nat.le_refl _)] at go
      cases go
      exact q F' M' σ H (x1.frz.trans s) st'
  · cases e1
theorem whlGo_succ (t : Slots → Store → Option (Bool × Store)) (f : Slots → Store → Option Out) (n : Nat) (sl : Slots) (S : Store) : whlGo t f (n + 1) sl S = match t sl S with
    | some (true, S1) => loopO (whlGo t f n) (f sl S1)
    | some (false, S1) => some (.nx sl S1)
    | none => none := by
  conv => lhs; unfold whlGo
  cases e : t sl S with
  | none => rfl
  | some p =>
    obtain ⟨b, S1⟩ := p
    cases b with
    | false => rfl
    | true =>
      show _ = loopO (whlGo t f n) (f sl S1)
      dsimp only
      cases f sl S1 with
      | none => rfl
      | some o => cases o <;> rfl
theorem r_whl (T : Ctx X G E k) (hp : PassesOwn (model X.prog X.w) X.A X.env X.xe) {t : Ex} {b : Sms} {x : Expr} {bs : List Stmt} {pos : Pos} (ht : PT X x (tT X.w X.K fun sl S => bool? (evE E sl S t))) (hb : PSs X bs (tS X.w X.K fun sl S => exSs E sl S b)) :
    PS X (.While x bs [] pos) (tS X.w X.K fun sl S => exS E sl S (.whl t b)) := by
  refine PS.imp (ps_while hp ht hb) fun D σ H hh => ?_
  obtain ⟨F0, M0, H0, F, M, S, sl, out, st, e1, q⟩ := hh
  dsimp only at e1
  unfold exS at e1
  refine ⟨fun m σ H => ∃ F' M' S' sl', Sub F F' ∧ Stt X.w X.K F0 M0 H0 F' M' S' sl' σ H ∧ whlGo (fun sl S => bool? (evE E sl S t)) (fun sl S => exSs E sl S b) m sl' S' = some out, ⟨E.n, F, M, S, sl, Sub.refl _, st, e1⟩, ?_⟩
  rintro m σ H ⟨F', M', S', sl', s, st', go⟩
  cases m with
  | zero => cases go
  | succ m =>
    rw [whlGo_succ] at go
    split at go
    · rename_i S1 et
      refine tT_then st' et fun F1 M1 H1 x1 st1 => ?_
      rw [if_pos rfl]
      cases eo : exSs E sl' S1 b with
      | none => rw [eo] at go; cases go
      | some o =>
        rw [eo] at go
        refine ⟨fun σ H => ∃ F' M' S' sl', Sub F F' ∧ Stt X.w X.K F0 M0 H0 F' M' S' sl' σ H ∧ whlGo (fun sl S => bool? (evE E sl S t)) (fun sl S => exSs E sl S b) m sl' S' = some out, fun σ' H' h => ⟨m, Nat.lt_succ_self m, h⟩, ?_⟩
        exact tS_then st1 eo (PostO.loop go (q.sub (s.trans x1.frz)) fun sl S F' M' σ' H' s' e st' => ⟨F', M', S, sl, (s.trans x1.frz).trans s', st', e⟩)
    · rename_i S1 et
      cases go
      refine tT_then st' et fun F1 M1 H1 x1 st1 => ?_
      rw [if_neg Bool.false_ne_true]
      exact q F1 M1 σ H1 (s.trans x1.frz) st1
    · cases go
theorem r_nil : PSs X [] (tS X.w X.K fun sl S => exSs E sl S .nil) := by
  refine PSs.imp pss_nil fun D σ H hh => ?_
  obtain ⟨F0, M0, H0, F, M, S, sl, out, st, e1, q⟩ := hh
  dsimp only at e1
  unfold exSs at e1
  cases e1
  exact q F M σ H (Sub.refl _) st
theorem r_cons {s : Sm} {r : Sms} {a : Stmt} {as : List Stmt} (hs : PS X a (tS X.w X.K fun sl S => exS E sl S s)) (hr : PSs X as (tS X.w X.K fun sl S => exSs E sl S r)) : PSs X (a :: as) (tS X.w X.K fun sl S => exSs E sl S (.cons s r)) := by
  refine PSs.imp (pss_cons hs hr) fun D σ H hh => ?_
  obtain ⟨F0, M0, H0, F, M, S, sl, out, st, e1, q⟩ := hh
  dsimp only at e1
  unfold exSs at e1
  split at e1
  · rename_i sl1 S1 e2
    refine tS_then st e2 fun F' M' σ' H' s st' => ?_
    exact tS_then st' e1 (q.sub s)
  · rename_i hne
    cases out with
    | nx sl1 S1 => exact absurd e1 (hne sl1 S1)
    | brk sl1 S1 => exact tS_then st e1 q
    | cnt sl1 S1 => exact tS_then st e1 q
    | ret v S1 => exact tS_then st e1 q
theorem exS_frz {i : Nat} {sl : Slots} {S : Store} : (∃ o, sl[i]? = some (some (.own o)) ∧ exS E sl S (.frz i) = some (.nx (sl.set i (some o.fz)) S)) ∨ exS E sl S (.frz i) = some (.nx sl S) := by
  unfold exS
  split
  · exact .inl ⟨_, by assumption, rfl⟩
  · exact .inr rfl
theorem exSs_nx {sl sl1 : Slots} {S S1 : Store} {s : Sm} {r : Sms} (e : exS E sl S s = some (.nx sl1 S1)) : exSs E sl S (.cons s r) = exSs E sl1 S1 r := by
  conv => lhs; unfold exSs
  rw [e]
theorem r_frz {i : Nat} {r : Sms} {as : List Stmt} (hr : PSs X as (tS X.w X.K fun sl S => exSs E sl S r)) : PSs X as (tS X.w X.K fun sl S => exSs E sl S (.cons (.frz i) r)) := by
  refine PSs.imp hr fun D σ H hh => ?_
  obtain ⟨F0, M0, H0, F, M, S, sl, out, st, e1, q⟩ := hh
  dsimp only at e1
  rcases exS_frz (E := E) (i := i) (sl := sl) (S := S) with ⟨o, eo, e2⟩ | e2
  · rw [exSs_nx e2] at e1
    obtain ⟨F', sF, st'⟩ := st.frz eo
    exact tS_then st' e1 (q.sub sF)
  · rw [exSs_nx e2] at e1
    exact tS_then st e1 q
mutual
theorem sS : ∀ (s : Sm) (X : Cx) (c : Cn) (a : Stmt), Ctx X G E k → CnOk X c → PassesOwn (model X.prog X.w) X.A X.env X.xe → X.env.scope.kind = .function → chS G c s a = true → PS X a (tS X.w X.K fun sl S => exS E sl S s)
  | .asg (.nm i) e, X, c, a, T, C, hp, hk, h => by
    unfold chS at h
    split at h <;> first | contradiction | skip
    all_goals first
      | (cases ‹Sm.asg _ _ = _›; done)
      | (cases ‹Sm.asg _ _ = _›; simp only [Bool.and_eq_true] at h; exact r_asg T C h.1.1 h.1.2 h.2)
      | (simp only [Bool.and_eq_true] at h; exact r_asg T C h.1.1 h.1.2 h.2)
  | .asg (.tp is) e, X, c, a, T, C, hp, hk, h => by
    unfold chS at h
    split at h <;> first | contradiction | skip
    all_goals first
      | (cases ‹Sm.asg _ _ = _›; done)
      | (cases ‹Sm.asg _ _ = _›; simp only [Bool.and_eq_true] at h; exact r_asgT T C h.1.1.1 h.1.1.2 h.1.2)
      | (simp only [Bool.and_eq_true] at h; exact r_asgT T C h.1.1.1 h.1.1.2 h.1.2)
  | .asg (.tq _ _) e, X, c, a, T, C, hp, hk, h => by
    unfold chS at h
    cases h
  | .par is es, X, c, a, T, C, hp, hk, h => by
    unfold chS at h
    split at h <;> first | contradiction | skip
    all_goals cases ‹Sm.par _ _ = _›
    simp only [Bool.and_eq_true] at h
    exact r_par T C hk h.1.1.1 h.1.1.2 h.1.2 (of_decide_eq_true h.2)
  | .put i kk e, X, c, a, T, C, hp, hk, h => by
    unfold chS at h
    split at h <;> first | contradiction | skip
    all_goals cases ‹Sm.put _ _ _ = _›
    simp only [Bool.and_eq_true, Bool.not_eq_true'] at h
    exact r_put T C h.1.1.1.1.1.1 h.1.1.1.1.1.2 h.1.1.1.1.2 h.1.1.1.2 h.1.2 h.2 h.1.1.2 sws_sub
  | .app i e, X, c, a, T, C, hp, hk, h => by
    unfold chS at h
    split at h <;> first | contradiction | skip
    all_goals cases ‹Sm.app _ _ = _›
    simp only [Bool.and_eq_true, Bool.not_eq_true', decide_eq_true_eq] at h
    obtain ⟨⟨⟨⟨⟨rfl, h1⟩, h2⟩, h3⟩, h4⟩, h5⟩ := h
    exact r_app T C h1 h2 h3 h4 h5
  | .pop j i, X, c, a, T, C, hp, hk, h => by
    unfold chS at h
    split at h <;> first | contradiction | skip
    all_goals cases ‹Sm.pop _ _ = _›
    simp only [Bool.and_eq_true, Bool.not_eq_true', decide_eq_true_eq] at h
    obtain ⟨⟨⟨⟨⟨⟨rfl, h1⟩, h2⟩, h3⟩, h4⟩, h5⟩, h6⟩ := h
    exact r_pop T C h1 h2 h3 h4 h5 h6
  | .upd i e, X, c, a, T, C, hp, hk, h => by
    unfold chS at h
    cases h
  | .ret e, X, c, a, T, C, hp, hk, h => by
    unfold chS at h
    split at h <;> first | contradiction | skip
    all_goals cases ‹Sm.ret _ = _›
    exact r_ret T (sE e X c _ T C h).pe
  | .retN, X, c, a, T, C, hp, hk, h => by
    unfold chS at h
    split at h <;> first | contradiction | skip
    all_goals first | (cases ‹Sm.retN = _›; done) | skip
    exact r_retN
  | .ife t a b, X, c, x, T, C, hp, hk, h => by
    unfold chS at h
    split at h <;> first | contradiction | skip
    all_goals cases ‹Sm.ife _ _ _ = _›
    simp only [Bool.and_eq_true] at h
    exact r_ife ((sE t X c _ T C h.1.1.2).pt h.1.1.1) (sSs a X c _ T C hp hk h.1.2) (sSs b X c _ T C hp hk h.2)
  | .forr tg it b, X, c, x, T, C, hp, hk, h => by
    unfold chS at h
    split at h <;> first | contradiction | skip
    all_goals cases ‹Sm.forr _ _ _ = _›
    simp only [Bool.and_eq_true] at h
    exact r_for T hp (sI it X c _ _ T C h.1.1) (r_tg T.calm T.nd C h.1.2) (sSs b X c _ T C hp hk h.2) fun x => chI_nf h.1.1 _ x
  | .whl t b, X, c, x, T, C, hp, hk, h => by
    unfold chS at h
    split at h <;> first | contradiction | skip
    all_goals cases ‹Sm.whl _ _ = _›
    simp only [Bool.and_eq_true] at h
    exact r_whl T hp ((sE t X c _ T C h.1.2).pt h.1.1) (sSs b X c _ T C hp hk h.2)
  | .expr e, X, c, a, T, C, hp, hk, h => by
    unfold chS at h
    split at h <;> first | contradiction | skip
    all_goals cases ‹Sm.expr _ = _›
    simp only [Bool.and_eq_true] at h
    exact r_expr (sE e X c _ T C h.1).pe h.2
  | .pass, X, c, a, T, C, hp, hk, h => by
    unfold chS at h
    split at h <;> first | contradiction | skip
    all_goals first | (cases ‹Sm.pass = _›; done) | skip
    exact r_pass
  | .brk, X, c, a, T, C, hp, hk, h => by
    unfold chS at h
    split at h <;> first | contradiction | skip
    all_goals first | (cases ‹Sm.brk = _›; done) | skip
    exact r_brk
  | .cnt, X, c, a, T, C, hp, hk, h => by
    unfold chS at h
    split at h <;> first | contradiction | skip
    all_goals first | (cases ‹Sm.cnt = _›; done) | skip
    exact r_cnt
  | .never, X, c, a, T, C, hp, hk, h => r_never
  | .frz i, X, c, a, T, C, hp, hk, h => by
    unfold chS at h
    cases h
theorem sSs : ∀ (s : Sms) (X : Cx) (c : Cn) (a : List Stmt), Ctx X G E k → CnOk X c → PassesOwn (model X.prog X.w) X.A X.env X.xe → X.env.scope.kind = .function → chSs G c s a = true → PSs X a (tS X.w X.K fun sl S => exSs E sl S s)
  | .nil, X, c, a, T, C, hp, hk, h => by
    unfold chSs at h
    split at h <;> first | contradiction | skip
    all_goals first | (cases ‹Sms.nil = _›; done) | skip
    exact r_nil
  | .cons s r, X, c, a, T, C, hp, hk, h => by
    by_cases hf : ∃ i, s = .frz i
    · obtain ⟨i, rfl⟩ := hf
      exact r_frz (sSs r X c a T C hp hk (by unfold chSs at h; exact h))
    · have : ∃ b bs, a = b :: bs ∧ chS G c s b = true ∧ chSs G c r bs = true := by
        unfold chSs at h
        split at h
        · cases ‹Sms.cons _ _ = .nil›
        · cases ‹Sms.cons _ _ = .cons _ _›
          exact absurd ⟨_, rfl⟩ hf
        · cases ‹Sms.cons _ _ = .cons _ _›
          rw [Bool.and_eq_true] at h
          exact ⟨_, _, rfl, h.1, h.2⟩
        · cases h
      obtain ⟨b, bs, rfl, h1, h2⟩ := this
      exact r_cons (sS s X c b T C hp hk h1) (sSs r X c bs T C hp hk h2)
end
end
end DL

/-! The data layer, part 18: defs keep what the plain words say. -/
namespace DL
open PySem PySem.Spec PyProof.Rows L2
theorem forGo_free {f : D → Slots → Store → Option Out} (h : ∀ d sl S v S', f d sl S = some (.ret v S') → v.free = true) : ∀ (ds : List D) sl S v S', forGo f ds sl S = some (.ret v S') → v.free = true
  | [], _, _, _, _, e => by cases e
  | d :: ds, sl, S, v, S', e => by
    rw [forGo_cons] at e
    cases q : f d sl S with
    | none => rw [q] at e; cases e
    | some o =>
      rw [q] at e
      cases o with
      | nx sl S => exact forGo_free h ds _ _ _ _ e
      | cnt sl S => exact forGo_free h ds _ _ _ _ e
      | brk sl S => cases e
      | ret v S => cases e; exact h _ _ _ _ _ q
theorem whlGo_free {t : Slots → Store → Option (Bool × Store)} {f : Slots → Store → Option Out} (h : ∀ sl S v S', f sl S = some (.ret v S') → v.free = true) : ∀ (n : Nat) sl S v S', whlGo t f n sl S = some (.ret v S') → v.free = true
  | 0, _, _, _, _, e => by cases e
  | n + 1, sl, S, v, S', e => by
    rw [whlGo_succ] at e
    split at e
    · rename_i S1 _
      cases q : f sl S1 with
      | none => rw [q] at e; cases e
      | some o =>
        rw [q] at e
        cases o with
        | nx sl S => exact whlGo_free h n _ _ _ _ e
        | cnt sl S => exact whlGo_free h n _ _ _ _ e
        | brk sl S => cases e
        | ret v S => cases e; exact h _ _ _ _ q
    · cases e
    · cases e
mutual
theorem exS_free (E : Ev) : ∀ (s : Sm) sl S v S', exS E sl S s = some (.ret v S') → v.free = true
  | .asg (.nm i) e, sl, S, v, S', h => by
    unfold exS at h
    split at h <;> cases h
  | .asg (.tp i) e, sl, S, v, S', h => by
    unfold exS at h
    split at h
    · obtain ⟨_, _, e⟩ := Option.map_eq_some_iff.mp h
      cases e
    · cases h
  | .asg (.tq i j) e, sl, S, v, S', h => by
    unfold exS at h
    split at h
    · obtain ⟨_, _, e⟩ := Option.map_eq_some_iff.mp h
      cases e
    · cases h
  | .par is es, sl, S, v, S', h => by
    unfold exS at h
    split at h
    · split at h <;> cases h
    · cases h
  | .put i kk e, sl, S, v, S', h => by
    unfold exS at h
    split at h
    · split at h
      · obtain ⟨_, _, e⟩ := Option.map_eq_some_iff.mp h
        cases e
      · cases h
    · cases h
  | .app i e, sl, S, v, S', h => by
    unfold exS at h
    split at h
    · split at h
      · split at h <;> cases h
      · cases h
    · cases h
  | .pop j i, sl, S, v, S', h => by
    unfold exS at h
    split at h
    · split at h
      · split at h <;> cases h
      · cases h
    · cases h
  | .upd i e, sl, S, v, S', h => by
    unfold exS at h
    split at h
    · split at h
      · split at h <;> cases h
      · cases h
    · cases h
  | .ret e, sl, S, v, S', h => by
    unfold exS at h
    split at h
    · split at h
      · cases h; assumption
      · cases h
    · cases h
  | .retN, sl, S, v, S', h => by
    unfold exS at h
    cases h; rfl
  | .ife t a b, sl, S, v, S', h => by
    unfold exS at h
    split at h
    · exact exSs_free E a _ _ _ _ h
    · exact exSs_free E b _ _ _ _ h
    · cases h
  | .forr tg it b, sl, S, v, S', h => by
    unfold exS at h
    split at h
    · refine forGo_free (fun d sl S v S' q => ?_) _ _ _ _ _ h
      split at q
      · exact exSs_free E b _ _ _ _ q
      · cases q
    · cases h
  | .whl t b, sl, S, v, S', h => by
    unfold exS at h
    exact whlGo_free (fun sl S v S' q => exSs_free E b _ _ _ _ q) _ _ _ _ _ h
  | .expr e, sl, S, v, S', h => by
    unfold exS at h
    split at h <;> cases h
  | .pass, sl, S, v, S', h => by unfold exS at h; cases h
  | .brk, sl, S, v, S', h => by unfold exS at h; cases h
  | .cnt, sl, S, v, S', h => by unfold exS at h; cases h
  | .never, sl, S, v, S', h => by unfold exS at h; cases h
  | .frz i, sl, S, v, S', h => by
    unfold exS at h
    split at h <;> cases h
theorem exSs_free (E : Ev) : ∀ (s : Sms) sl S v S', exSs E sl S s = some (.ret v S') → v.free = true
  | .nil, sl, S, v, S', h => by unfold exSs at h; cases h
  | .cons s r, sl, S, v, S', h => by
    unfold exSs at h
    split at h
    · exact exSs_free E r _ _ _ _ h
    · exact exS_free E s _ _ _ _ h
end
theorem run_free {ds : Nat → Option Df} {cs : Nat → Option D} {n k f : Nat} {vs : List SV} {S S' : Store} {r : SV} (h : run ds cs n k f vs S = some (r, S')) : r.free = true := by
  cases k with
  | zero => cases h
  | succ k =>
    unfold run at h
    split at h
    · split at h
      · split at h
        · cases h
          exact exSs_free _ _ _ _ _ _ (by assumption)
        · cases h; rfl
        · cases h
      · cases h
    · cases h
/-- a def of the row -/
structure DefOk (K : Frg) (mg : Str → Option Value) (G : Pg) (d : Df) (a : Addr) (fd : FuncData) : Prop where
  at_ : mg d.name = some (.ref a)
  bnd : ∀ (s : Shared) (us : List Value), us.length = d.params.length → BindsTo s fd ⟨us, []⟩ (d.params.zip us)
  row : ∃ args body scope, FunD K d.name d.name args body scope [] [] a fd ∧ FnScope d.N d.params scope ∧ chSs G ⟨d.N, scope, fun _ => true⟩ d.body body = true
theorem DefOk.binds {K : Frg} {mg : Str → Option Value} {G : Pg} {d : Df} {a : Addr} {fd : FuncData} (h : DefOk K mg G d a fd) : Binds K fd d.params [] := fun s us _ hl => by
  rw [List.append_nil] at hl ⊢
  exact h.bnd s us hl
structure TopOk (K : Frg) (mg : Str → Option Value) (G : Pg) (ds : Nat → Option Df) (cs : Nat → Option D) : Prop where
  blt : ∀ x ∈ bltNames, mg x = none
  con : ∀ (g : Nat) x, G.gn g = some x → ∃ d u v, cs g = some d ∧ mg x = some u ∧ RelV v u ∧ Rp K (fun _ => none) v d
  sub : ∀ f d, G.ds f = some d → ds f = some d
  fn : ∀ f d, G.ds f = some d → ∃ a fd, DefOk K mg G d a fd
theorem startS_get {d : Df} {vs : List SV} {us : List V} {w : World} {K : Frg} {H F : Hp} {M : List Addr} (p : Paired (fun v s => s.free = true ∧ RSV w K H F M H v s) us vs) {i : Nat} {sv : SV} (e : (startS d vs)[i]? = some (some sv)) :
    ∃ v, (L2.start d.N us)[i]? = some (some v) ∧ sv.free = true ∧ RSV w K H F M H v sv := by
  unfold startS at e
  unfold L2.start
  have hl := p.length
  by_cases h : i < vs.length
  · rw [List.getElem?_append_left (by rw [List.length_map]; exact h), List.getElem?_map, List.getElem?_eq_getElem h] at e
    cases e
    have h2 : i < us.length := by rw [hl]; exact h
    obtain ⟨x, e1, e2⟩ : ∃ x, us[i]? = some x ∧ (vs[i].free = true ∧ RSV w K H F M H x vs[i]) := by
      clear hl
      have : ∀ {us : List V} {vs : List SV} {i : Nat} {y : SV}, Paired (fun v s => s.free = true ∧ RSV w K H F M H v s) us vs → vs[i]? = some y → ∃ x, us[i]? = some x ∧ (y.free = true ∧ RSV w K H F M H x y) := by
        intro us vs i y p
        induction p generalizing i with
        | nil => intro e; simp at e
        | cons h t ih =>
          intro e
          cases i with
          | zero => simp at e; subst e; exact ⟨_, rfl, h⟩
          | succ i => obtain ⟨x, a, b⟩ := ih (i := i) (by simpa using e); exact ⟨x, by simpa using a, b⟩
      exact this p (List.getElem?_eq_getElem h)
    exact ⟨x, by rw [List.getElem?_append_left (by rw [List.length_map]; exact h2), List.getElem?_map, e1]; rfl, e2⟩
  · rw [List.getElem?_append_right (by rw [List.length_map]; omega), List.getElem?_replicate] at e
    split at e <;> cases e
theorem start_stt {d : Df} {vs : List SV} {us : List V} {w : World} {K : Frg} {H F : Hp} {M : List Addr} {S : Store} (s : Sub F H) (c : DL.Cls K F M H S) (p : Paired (fun v s => s.free = true ∧ RSV w K H F M H v s) us vs) : Stt w K F M H F M S (startS d vs) (L2.start d.N us) H := by
  refine ⟨Xt.refl s, ?_, c, fun i sv e => ?_, fun i j oi oj v e _ _ _ => ?_, fun i sv e => ?_⟩
  · unfold startS L2.start
    simp only [List.length_append, List.length_map, List.length_replicate, p.length]
  · obtain ⟨v, e1, e2, e3⟩ := startS_get p e
    exact ⟨v, e1, e3⟩
  · obtain ⟨v, e1, e2, e3⟩ := startS_get p e
    cases e2
  · obtain ⟨v, e1, e2, e3⟩ := startS_get p e
    exact .inl e2
theorem all_ok {P : Program} {w : World} {K : Frg} {mg : Str → Option Value} {base : Heap} {G : Pg} {ds : Nat → Option Df} {cs : Nat → Option D} {n : Nat} (T : TopOk K mg G ds cs) : ∀ (k f : Nat) (d : Df) (a : Addr) (fd : FuncData), G.ds f = some d → DefOk K mg G d a fd →
    FnOk P w K mg base CX0 k a fd d.params (spD w K (run ds cs n k) f)
  | 0, f, d, a, fd, hd, D => by
    refine ⟨fun vs H Q E h => ?_, fun A outer s H args us vs Q E _ _ _ _ h => ?_⟩
    · obtain ⟨_, _, _, _, _, _, _, _, _, e, _⟩ := h
      cases e
    · obtain ⟨_, _, _, _, _, _, _, _, _, e, _⟩ := h
      cases e
  | k + 1, f, d, a, fd, hd, D => by
    obtain ⟨args, body, scope, F, S, ch⟩ := D.row
    have hds := T.sub f d hd
    refine F.ok S (fun vs H Q E h => ?_) (fun cdv A outer s H vs Q E hr h => ?_)
    · obtain ⟨F, M, St, as, r, S', _, _, p, e, _⟩ := h
      unfold run at e
      rw [hds] at e
      dsimp only at e
      split at e
      · rw [p.length]; assumption
      · cases e
    · refine ⟨tS w K fun sl S => exSs ⟨run ds cs n k, cs, n⟩ sl S d.body, PSs.nox ?_, ?_⟩
      · exact sSs (G := G) (E := ⟨run ds cs n k, cs, n⟩) (k := k) d.body (Cx.nox (cxOf CX0 P w K mg base d.N d.name scope a cdv A outer s H E)) ⟨d.N, scope, fun _ => true⟩ body
          ⟨rfl, S.nd, hr, T.blt, T.con, fun f' d' h' => by
            obtain ⟨a', fd', D'⟩ := T.fn f' d' h'
            obtain ⟨_, _, _, F', _, _⟩ := D'.row
            exact ⟨a', fd', D'.at_, F'.kp, D'.binds, all_ok T k f' d' a' fd' h' D'⟩, fun f vs S r S' h => run_free h⟩ ⟨rfl, rfl, rfl⟩ PassesOwn.never S.kind ch
      · obtain ⟨F, M, St, as, r, S', sF, c, p, e, fr, kk⟩ := h
        unfold run at e
        rw [hds] at e
        dsimp only at e
        split at e
        · split at e
          · rename_i v S1 e1
            cases e
            exact tS_then (start_stt sF c p) e1 fun F' M' H' z s x c2 f2 r2 => kk F' M' H' z x c2 r2
          · rename_i sl S1 e1
            cases e
            exact tS_then (start_stt sF c p) e1 fun F' M' σ' H' s st => kk F' M' H' .non st.base st.cls (rsv_d .non)
          · cases e
        · cases e
end DL

/-! The data layer, part 20: what a text computes, asked backwards. -/
namespace DL
open PySem L2
section
variable {α β : Type}
def WP (m : Option (α × Store)) (Q : α → Store → Prop) : Prop := ∃ a S, m = some (a, S) ∧ Q a S
def op1 (m : Option α) (P : α → Prop) : Prop := ∃ a, m = some a ∧ P a
theorem WP_some {a : α} {S : Store} {Q : α → Store → Prop} : WP (some (a, S)) Q ↔ Q a S := ⟨fun ⟨_, _, e, q⟩ => by cases e; exact q, fun q => ⟨a, S, rfl, q⟩⟩
theorem WP_none {Q : α → Store → Prop} : WP none Q ↔ False := ⟨fun ⟨_, _, e, _⟩ => (nomatch e), False.elim⟩
theorem op1_some {a : α} {P : α → Prop} : op1 (some a) P ↔ P a := ⟨fun ⟨_, e, q⟩ => by cases e; exact q, fun q => ⟨a, rfl, q⟩⟩
theorem op1_none {P : α → Prop} : op1 none P ↔ False := ⟨fun ⟨_, e, _⟩ => (nomatch e), False.elim⟩
theorem op1_if {c : Prop} [Decidable c] {a : α} {P : α → Prop} : op1 (if c then some a else none) P ↔ c ∧ P a := by
  by_cases h : c
  · rw [if_pos h, op1_some]; exact ⟨fun q => ⟨h, q⟩, fun q => q.2⟩
  · rw [if_neg h, op1_none]; exact ⟨False.elim, fun q => h q.1⟩
theorem op1_map {m : Option β} {f : β → α} {P : α → Prop} : op1 (m.map f) P ↔ op1 m fun a => P (f a) := by
  cases m with
  | none => rw [Option.map_none, op1_none, op1_none]
  | some a => rw [Option.map_some, op1_some, op1_some]
theorem WP.mono {m : Option (α × Store)} {Q Q' : α → Store → Prop} (h : WP m Q) (i : ∀ a S, Q a S → Q' a S) : WP m Q' := let ⟨a, S, e, q⟩ := h; ⟨a, S, e, i a S q⟩
theorem WP_congr {m : Option (α × Store)} {Q Q' : α → Store → Prop} (h : ∀ a S, Q a S ↔ Q' a S) : WP m Q ↔ WP m Q' := exists_congr fun a => exists_congr fun S => and_congr Iff.rfl (h a S)
theorem WP_bind {m : Option (β × Store)} {f : β → Store → Option (α × Store)} {Q : α → Store → Prop} : WP (match m with | some (b, S) => f b S | none => none) Q ↔ WP m fun b S => WP (f b S) Q := by
  rcases m with _ | ⟨b, S⟩
  · exact WP_none.trans WP_none.symm
  · rw [WP_some]
theorem WP_map {m : Option β} {f : β → α} {S : Store} {Q : α → Store → Prop} : WP (m.map fun z => (f z, S)) Q ↔ op1 m fun z => Q (f z) S := by
  cases m with
  | none => rw [Option.map_none, WP_none, op1_none]
  | some a => rw [Option.map_some, WP_some, op1_some]
end
/-- a value as a bool, an int, a datum, frozen -/
def asB (r : RV) (P : Bool → Prop) : Prop := ∃ b, r = .sv (.val (.bool b)) ∧ P b
def asI (r : RV) (P : Int → Prop) : Prop := ∃ b, r = .sv (.val (.int b)) ∧ P b
def asF (r : RV) (P : SV → Prop) : Prop := ∃ v, fzR r = some v ∧ P v
def asD (v : SV) (P : D → Prop) : Prop := ∃ d, v = .val d ∧ P d
def asFr (v : SV) (P : SV → Prop) : Prop := v.free = true ∧ P v
section
variable {P : Bool → Prop} {PI : Int → Prop} {PF : SV → Prop} {PD : D → Prop}
theorem asB_b {b : Bool} : asB (.sv (.val (.bool b))) P ↔ P b := ⟨fun ⟨_, e, q⟩ => by cases e; exact q, fun q => ⟨b, rfl, q⟩⟩
theorem asI_i {b : Int} : asI (.sv (.val (.int b))) PI ↔ PI b := ⟨fun ⟨_, e, q⟩ => by cases e; exact q, fun q => ⟨b, rfl, q⟩⟩
theorem asF_sv {v : SV} : asF (.sv v) PF ↔ PF v := ⟨fun ⟨_, e, q⟩ => by cases e; exact q, fun q => ⟨v, rfl, q⟩⟩
theorem asF_new {o : OV} : asF (.new o) PF ↔ PF o.fz := ⟨fun ⟨_, e, q⟩ => by cases e; exact q, fun q => ⟨_, rfl, q⟩⟩
theorem asD_val {d : D} : asD (.val d) PD ↔ PD d := ⟨fun ⟨_, e, q⟩ => by cases e; exact q, fun q => ⟨d, rfl, q⟩⟩
theorem asFr_val {d : D} : asFr (.val d) PF ↔ PF (.val d) := ⟨fun q => q.2, fun q => ⟨rfl, q⟩⟩
theorem asFr_cell {d : Nat} : asFr (.cell d) PF ↔ PF (.cell d) := ⟨fun q => q.2, fun q => ⟨rfl, q⟩⟩
theorem asFr_dct {d : List (D × D)} : asFr (.dct d) PF ↔ PF (.dct d) := ⟨fun q => q.2, fun q => ⟨rfl, q⟩⟩
theorem asFr_scr {d : List Int} : asFr (.scr d) PF ↔ PF (.scr d) := ⟨fun q => q.2, fun q => ⟨rfl, q⟩⟩
end
section
variable {E : Ev} {sl : Slots} {S : Store} {Q : RV → Store → Prop}
/-- a slot's look -/
def slotV : Option (Option SV) → Option RV
  | some (some (.own o)) => some (.bor o)
  | some (some v) => if v.free then some (.sv v) else none
  | _ => none
theorem slotV_own {o : OV} : slotV (some (some (.own o))) = some (.bor o) := rfl
theorem slotV_val {o : D} : slotV (some (some (.val o))) = some (.sv (.val o)) := rfl
theorem slotV_cell {o : Nat} : slotV (some (some (.cell o))) = some (.sv (.cell o)) := rfl
theorem slotV_dct {o : List (D × D)} : slotV (some (some (.dct o))) = some (.sv (.dct o)) := rfl
theorem slotV_scr {o : List Int} : slotV (some (some (.scr o))) = some (.sv (.scr o)) := rfl
theorem w_var {i : Nat} : WP (evE E sl S (.var i)) Q ↔ op1 (slotV sl[i]?) fun r => Q r S := by
  unfold evE
  cases sl[i]? with
  | none => rw [show slotV none = none from rfl, op1_none]; exact WP_none
  | some o => cases o with
    | none => rw [show slotV (some none) = none from rfl, op1_none]; exact WP_none
    | some v =>
      cases v with
      | own o => rw [slotV_own, op1_some]; exact WP_some
      | pk a b =>
        show WP (if (SV.pk a b).free then some (RV.sv (SV.pk a b), S) else none) Q ↔ op1 (if (SV.pk a b).free then some (RV.sv (SV.pk a b)) else none) _
        split
        · rw [WP_some, op1_some]
        · rw [WP_none, op1_none]
      | val d => rw [slotV_val, op1_some]; exact WP_some
      | cell d => rw [slotV_cell, op1_some]; exact WP_some
      | dct d => rw [slotV_dct, op1_some]; exact WP_some
      | scr d => rw [slotV_scr, op1_some]; exact WP_some
theorem w_glob {g : Nat} : WP (evE E sl S (.glob g)) Q ↔ op1 (E.cs g) fun d => Q (.sv (.val d)) S := by
  unfold evE
  cases E.cs g with
  | none => rw [op1_none]; exact WP_none
  | some d => rw [op1_some]; exact WP_some
theorem w_non : WP (evE E sl S .non) Q ↔ Q (.sv (.val .none)) S := by unfold evE; exact WP_some
theorem w_bl {b : Bool} : WP (evE E sl S (.bl b)) Q ↔ Q (.sv (.val (.bool b))) S := by unfold evE; exact WP_some
theorem w_int {b : Int} : WP (evE E sl S (.int b)) Q ↔ Q (.sv (.val (.int b))) S := by unfold evE; exact WP_some
theorem w_str {b : Str} : WP (evE E sl S (.str b)) Q ↔ Q (.sv (.val (.str b))) S := by unfold evE; exact WP_some
/-- a display's list -/
def lstS (vs : List SV) : Option (List D) := match vals vs with
  | some ds => if ds.length ≤ szL then some ds else none
  | none => none
theorem w_tup {es : Exs} : WP (evE E sl S (.tup es)) Q ↔ WP (evXs E sl S es) fun vs S1 => op1 (tupS vs) fun r => Q r S1 := by
  conv => lhs; unfold evE
  rcases evXs E sl S es with _ | ⟨a1, S1⟩
  · exact WP_none.trans WP_none.symm
  · refine Iff.trans ?_ WP_some.symm
    dsimp only
    exact WP_map
theorem w_lst {es : Exs} : WP (evE E sl S (.lst es)) Q ↔ WP (evXs E sl S es) fun vs S1 => op1 (lstS vs) fun ds => Q (.new (.lst ds)) S1 := by
  conv => lhs; unfold evE
  rcases evXs E sl S es with _ | ⟨a1, S1⟩
  · exact WP_none.trans WP_none.symm
  · refine Iff.trans ?_ WP_some.symm
    dsimp only
    unfold lstS
    rcases vals a1 with _ | ds
    · exact WP_none.trans op1_none.symm
    · dsimp only
      split
      · rw [op1_some]; exact WP_some
      · rw [op1_none]; exact WP_none
theorem w_cel {es : Exs} : WP (evE E sl S (.cel es)) Q ↔ WP (evXs E sl S es) fun vs S1 => op1 (lstS vs) fun ds => Q (.sv (.cell S1.length)) (S1 ++ [ds]) := by
  conv => lhs; unfold evE
  rcases evXs E sl S es with _ | ⟨a1, S1⟩
  · exact WP_none.trans WP_none.symm
  · refine Iff.trans ?_ WP_some.symm
    dsimp only
    unfold lstS
    rcases vals a1 with _ | ds
    · exact WP_none.trans op1_none.symm
    · dsimp only
      split
      · rw [op1_some]; exact WP_some
      · rw [op1_none]; exact WP_none
theorem w_dnew : WP (evE E sl S .dnew) Q ↔ Q (.new (.dct [])) S := by unfold evE; exact WP_some
theorem WP_fz {m : Option (RV × Store)} {Q : SV → Store → Prop} : WP (fz? m) Q ↔ WP m fun r S => asF r fun v => Q v S := by
  rcases m with _ | ⟨r, S⟩
  · exact Iff.trans WP_none WP_none.symm
  · rw [WP_some]
    unfold fz? asF
    dsimp only
    cases h : fzR r with
    | none => rw [WP_none]; exact ⟨False.elim, fun ⟨_, e, _⟩ => by cases e⟩
    | some v => rw [WP_some]; exact ⟨fun q => ⟨v, rfl, q⟩, fun ⟨_, e, q⟩ => by cases e; exact q⟩
theorem WP_dat {m : Option (SV × Store)} {Q : D → Store → Prop} : WP (dat? m) Q ↔ WP m fun r S => asD r fun v => Q v S := by
  rcases m with _ | ⟨r, S⟩
  · exact Iff.trans WP_none WP_none.symm
  · rw [WP_some]
    cases r with
    | val d => rw [asD_val]; exact WP_some
    | _ => exact Iff.trans WP_none ⟨False.elim, fun ⟨_, e, _⟩ => by cases e⟩
theorem WP_datz {m : Option (RV × Store)} {Q : D → Store → Prop} : WP (dat? (fz? m)) Q ↔ WP m fun r S => asF r fun v => asD v fun d => Q d S := by rw [WP_dat, WP_fz]
theorem WP_bool {m : Option (RV × Store)} {Q : Bool → Store → Prop} : WP (bool? m) Q ↔ WP m fun r S => asB r fun v => Q v S := by
  rcases m with _ | ⟨r, S⟩
  · exact Iff.trans WP_none WP_none.symm
  · rw [WP_some]
    unfold bool?
    split
    · rename_i b S' e
      cases e
      rw [asB_b]; exact WP_some
    · rename_i h
      refine Iff.trans WP_none ⟨False.elim, ?_⟩
      rintro ⟨b, rfl, _⟩
      exact h b S rfl
theorem WP_int {m : Option (RV × Store)} {Q : Int → Store → Prop} : WP (int? m) Q ↔ WP m fun r S => asI r fun v => Q v S := by
  rcases m with _ | ⟨r, S⟩
  · exact Iff.trans WP_none WP_none.symm
  · rw [WP_some]
    unfold int?
    split
    · rename_i b S' e
      cases e
      rw [asI_i]; exact WP_some
    · rename_i h
      refine Iff.trans WP_none ⟨False.elim, ?_⟩
      rintro ⟨b, rfl, _⟩
      exact h b S rfl
theorem WP_opt2 {m : Option (RV × Store)} {f : RV → RV → Option RV} {r : RV} : WP (opt2 f r m) Q ↔ WP m fun q S => op1 (f r q) fun z => Q z S := by
  rcases m with _ | ⟨q, S⟩
  · exact Iff.trans WP_none WP_none.symm
  · rw [WP_some]
    exact WP_map
theorem w_bop {o : BOp} {a b : Ex} : WP (evE E sl S (.bop o a b)) Q ↔ WP (evE E sl S a) fun r S1 => WP (evE E sl S1 b) fun q S2 => op1 (bopS o r q) fun z => Q z S2 := by
  conv => lhs; unfold evE
  rcases evE E sl S a with _ | ⟨a1, S1⟩
  · exact WP_none.trans WP_none.symm
  · refine Iff.trans ?_ WP_some.symm
    dsimp only
    exact WP_opt2
theorem w_cop {o : COp} {a b : Ex} : WP (evE E sl S (.cop o a b)) Q ↔ WP (evE E sl S a) fun r S1 => WP (evE E sl S1 b) fun q S2 => op1 (copS o r q) fun z => Q (.sv (.val (.bool z))) S2 := by
  conv => lhs; unfold evE
  rcases evE E sl S a with _ | ⟨a1, S1⟩
  · exact WP_none.trans WP_none.symm
  · refine Iff.trans ?_ WP_some.symm
    dsimp only
    refine WP_opt2.trans ?_
    simp only [op1_map]
theorem w_chn {o p : COp} {a b c : Ex} : WP (evE E sl S (.chn o p a b c)) Q ↔ WP (evE E sl S a) fun x S1 => WP (evE E sl S1 b) fun y S2 => op1 (copS o x y) fun z =>
    if z = true then WP (evE E sl S2 c) fun q S3 => op1 (copS p y q) fun z => Q (.sv (.val (.bool z))) S3 else Q (.sv (.val (.bool false))) S2 := by
  conv => lhs; unfold evE
  rcases evE E sl S a with _ | ⟨a1, S1⟩
  · exact WP_none.trans WP_none.symm
  · refine Iff.trans ?_ WP_some.symm
    dsimp only
    rcases evE E sl S1 b with _ | ⟨a2, S2⟩
    · exact WP_none.trans WP_none.symm
    · refine Iff.trans ?_ WP_some.symm
      dsimp only
      rcases copS o a1 a2 with _ | z
      · exact WP_none.trans op1_none.symm
      · rw [op1_some]
        cases z with
        | true => rw [if_pos rfl]; refine WP_opt2.trans ?_; simp only [op1_map]
        | false => rw [if_neg Bool.false_ne_true]; exact WP_some
theorem w_neg {a : Ex} : WP (evE E sl S (.neg a)) Q ↔ WP (evE E sl S a) fun r S1 => asI r fun i => Q (.sv (.val (.int (-i)))) S1 := by
  conv => lhs; unfold evE
  rw [show WP (evE E sl S a) (fun r S1 => asI r fun i => Q (.sv (.val (.int (-i)))) S1) ↔ WP (int? (evE E sl S a)) (fun i S1 => Q (.sv (.val (.int (-i)))) S1) from WP_int.symm]
  rcases int? (evE E sl S a) with _ | ⟨a1, S1⟩
  · exact WP_none.trans WP_none.symm
  · refine Iff.trans ?_ WP_some.symm
    dsimp only
    exact WP_some
theorem WP_fzm {m : Option (RV × Store)} : WP (match fz? m with | some (v, S2) => some (RV.sv v, S2) | none => none) Q ↔ WP m fun r S => asF r fun v => Q (.sv v) S := by
  rw [show WP m (fun r S => asF r fun v => Q (.sv v) S) ↔ WP (fz? m) (fun v S => Q (.sv v) S) from WP_fz.symm]
  rcases fz? m with _ | ⟨a1, S1⟩
  · exact WP_none.trans WP_none.symm
  · refine Iff.trans ?_ WP_some.symm
    dsimp only
    exact WP_some
theorem w_and {a b : Ex} : WP (evE E sl S (.and a b)) Q ↔ WP (evE E sl S a) fun r S1 => asB r fun z => if z = true then WP (evE E sl S1 b) fun q S2 => asF q fun v => Q (.sv v) S2 else Q (.sv (.val (.bool false))) S1 := by
  conv => lhs; unfold evE
  refine Iff.trans ?_ (WP_bool (m := evE E sl S a) (Q := fun z S1 => if z = true then WP (evE E sl S1 b) (fun q S2 => asF q fun v => Q (.sv v) S2) else Q (.sv (.val (.bool false))) S1))
  rcases bool? (evE E sl S a) with _ | ⟨a1, S1⟩
  · exact WP_none.trans WP_none.symm
  · refine Iff.trans ?_ WP_some.symm
    skip
    cases a1 with
    | true => rw [if_pos rfl]; exact WP_fzm
    | false => rw [if_neg Bool.false_ne_true]; exact WP_some
theorem w_or {a b : Ex} : WP (evE E sl S (.or a b)) Q ↔ WP (evE E sl S a) fun r S1 => asB r fun z => if z = true then Q (.sv (.val (.bool true))) S1 else WP (evE E sl S1 b) fun q S2 => asF q fun v => Q (.sv v) S2 := by
  conv => lhs; unfold evE
  refine Iff.trans ?_ (WP_bool (m := evE E sl S a) (Q := fun z S1 => if z = true then Q (.sv (.val (.bool true))) S1 else WP (evE E sl S1 b) (fun q S2 => asF q fun v => Q (.sv v) S2)))
  rcases bool? (evE E sl S a) with _ | ⟨a1, S1⟩
  · exact WP_none.trans WP_none.symm
  · refine Iff.trans ?_ WP_some.symm
    skip
    cases a1 with
    | true => rw [if_pos rfl]; exact WP_some
    | false => rw [if_neg Bool.false_ne_true]; exact WP_fzm
theorem w_not {a : Ex} : WP (evE E sl S (.not a)) Q ↔ WP (evE E sl S a) fun r S1 => asB r fun z => Q (.sv (.val (.bool (!z)))) S1 := by
  conv => lhs; unfold evE
  rw [show WP (evE E sl S a) (fun r S1 => asB r fun i => Q (.sv (.val (.bool (!i)))) S1) ↔ WP (bool? (evE E sl S a)) (fun i S1 => Q (.sv (.val (.bool (!i)))) S1) from WP_bool.symm]
  rcases bool? (evE E sl S a) with _ | ⟨a1, S1⟩
  · exact WP_none.trans WP_none.symm
  · refine Iff.trans ?_ WP_some.symm
    dsimp only
    exact WP_some
theorem w_ite {t a b : Ex} : WP (evE E sl S (.ite t a b)) Q ↔ WP (evE E sl S t) fun r S1 => asB r fun z => if z = true then WP (evE E sl S1 a) fun q S2 => asF q fun v => Q (.sv v) S2 else WP (evE E sl S1 b) fun q S2 => asF q fun v => Q (.sv v) S2 := by
  conv => lhs; unfold evE
  refine Iff.trans ?_ (WP_bool (m := evE E sl S t) (Q := fun z S1 => if z = true then WP (evE E sl S1 a) (fun q S2 => asF q fun v => Q (.sv v) S2) else WP (evE E sl S1 b) (fun q S2 => asF q fun v => Q (.sv v) S2)))
  rcases bool? (evE E sl S t) with _ | ⟨a1, S1⟩
  · exact WP_none.trans WP_none.symm
  · refine Iff.trans ?_ WP_some.symm
    skip
    cases a1 with
    | true => rw [if_pos rfl]; exact WP_fzm
    | false => rw [if_neg Bool.false_ne_true]; exact WP_fzm
theorem w_sub {a i : Ex} : WP (evE E sl S (.sub a i)) Q ↔ WP (evE E sl S a) fun r S1 => WP (evE E sl S1 i) fun q S2 => op1 (subS S2 r q) fun z => Q z S2 := by
  conv => lhs; unfold evE
  rcases evE E sl S a with _ | ⟨a1, S1⟩
  · exact WP_none.trans WP_none.symm
  · refine Iff.trans ?_ WP_some.symm
    dsimp only
    rcases evE E sl S1 i with _ | ⟨a2, S2⟩
    · exact WP_none.trans WP_none.symm
    · refine Iff.trans ?_ WP_some.symm
      dsimp only
      exact WP_map
theorem w_slc {a : Ex} {lo hi : Exo} : WP (evE E sl S (.slc a lo hi)) Q ↔ WP (evE E sl S a) fun r S1 => WP (evO E sl S1 lo) fun l S2 => WP (evO E sl S2 hi) fun h S3 => op1 (slcS r l h) fun z => Q z S3 := by
  conv => lhs; unfold evE
  rcases evE E sl S a with _ | ⟨a1, S1⟩
  · exact WP_none.trans WP_none.symm
  · refine Iff.trans ?_ WP_some.symm
    dsimp only
    rcases evO E sl S1 lo with _ | ⟨a2, S2⟩
    · exact WP_none.trans WP_none.symm
    · refine Iff.trans ?_ WP_some.symm
      dsimp only
      rcases evO E sl S2 hi with _ | ⟨a3, S3⟩
      · exact WP_none.trans WP_none.symm
      · refine Iff.trans ?_ WP_some.symm
        dsimp only
        exact WP_map
theorem w_rev {a : Ex} : WP (evE E sl S (.rev a)) Q ↔ WP (evE E sl S a) fun r S1 => op1 (revS r) fun z => Q z S1 := by
  conv => lhs; unfold evE
  rcases evE E sl S a with _ | ⟨a1, S1⟩
  · exact WP_none.trans WP_none.symm
  · refine Iff.trans ?_ WP_some.symm
    dsimp only
    exact WP_map
theorem w_call {f : Nat} {es : Exs} : WP (evE E sl S (.call f es)) Q ↔ WP (evXs E sl S es) fun vs S1 => WP (E.call f vs S1) fun v S2 => Q (.sv v) S2 := by
  conv => lhs; unfold evE
  rcases evXs E sl S es with _ | ⟨a1, S1⟩
  · exact WP_none.trans WP_none.symm
  · refine Iff.trans ?_ WP_some.symm
    dsimp only
    rcases E.call f a1 S1 with _ | ⟨a2, S2⟩
    · exact WP_none.trans WP_none.symm
    · refine Iff.trans ?_ WP_some.symm
      dsimp only
      exact WP_some
theorem w_isi {a : Ex} {t : Ty} : WP (evE E sl S (.isi a t)) Q ↔ WP (evE E sl S a) fun r S1 => op1 (isiS r t) fun b => Q (.sv (.val (.bool b))) S1 := by
  conv => lhs; unfold evE
  rcases evE E sl S a with _ | ⟨a1, S1⟩
  · exact WP_none.trans WP_none.symm
  · refine Iff.trans ?_ WP_some.symm
    dsimp only
    exact WP_map
theorem w_bi {b : Bi} {es : Exs} : WP (evE E sl S (.bi b es)) Q ↔ WP (evEs E sl S es) fun rs S1 => op1 (biS b rs) fun r => Q r S1 := by
  conv => lhs; unfold evE
  rcases evEs E sl S es with _ | ⟨a1, S1⟩
  · exact WP_none.trans WP_none.symm
  · refine Iff.trans ?_ WP_some.symm
    dsimp only
    exact WP_map
theorem w_me {m : Me} {o : Ex} {es : Exs} : WP (evE E sl S (.me m o es)) Q ↔ WP (evE E sl S o) fun r S1 => WP (evEs E sl S1 es) fun rs S2 => op1 (meS m r rs) fun z => Q z S2 := by
  conv => lhs; unfold evE
  rcases evE E sl S o with _ | ⟨a1, S1⟩
  · exact WP_none.trans WP_none.symm
  · refine Iff.trans ?_ WP_some.symm
    dsimp only
    rcases evEs E sl S1 es with _ | ⟨a2, S2⟩
    · exact WP_none.trans WP_none.symm
    · refine Iff.trans ?_ WP_some.symm
      dsimp only
      exact WP_map
theorem WP_mapE {m : Option (RV × Store)} {f : RV → Option RV} : WP (match m with | some (r, S1) => (f r).map fun z => (z, S1) | none => none) Q ↔ WP m fun r S1 => op1 (f r) fun z => Q z S1 := by
  rcases m with _ | ⟨r, S1⟩
  · exact WP_none.trans WP_none.symm
  · refine Iff.trans ?_ WP_some.symm
    exact WP_map
theorem w_sset {a : Ex} : WP (evE E sl S (.sset a)) Q ↔ WP (evE E sl S a) fun r S1 => op1 (ssetS r) fun z => Q z S1 := by
  conv => lhs; unfold evE
  exact WP_mapE
theorem w_min1 {a : Ex} : WP (evE E sl S (.min1 a)) Q ↔ WP (evE E sl S a) fun r S1 => op1 (min1S r) fun z => Q z S1 := by
  conv => lhs; unfold evE
  exact WP_mapE
theorem w_sitm {a : Ex} : WP (evE E sl S (.sitm a)) Q ↔ WP (evE E sl S a) fun r S1 => op1 (sitmS r) fun z => Q z S1 := by
  conv => lhs; unfold evE
  exact WP_mapE
theorem w_get2 {o a b : Ex} : WP (evE E sl S (.get2 o a b)) Q ↔ WP (evE E sl S o) fun r S1 => WP (evE E sl S1 a) fun x S2 => asF x fun v => asD v fun k => WP (evE E sl S2 b) fun y S3 => asF y fun u => asD u fun d => op1 (get2S r k d) fun z => Q z S3 := by
  conv => lhs; unfold evE
  rcases evE E sl S o with _ | ⟨r, S1⟩
  · exact WP_none.trans WP_none.symm
  · refine Iff.trans ?_ WP_some.symm
    dsimp only
    refine Iff.trans ?_ (WP_datz (m := evE E sl S1 a) (Q := fun k S2 => WP (evE E sl S2 b) fun y S3 => asF y fun u => asD u fun d => op1 (get2S r k d) fun z => Q z S3))
    rcases dat? (fz? (evE E sl S1 a)) with _ | ⟨k, S2⟩
    · exact WP_none.trans WP_none.symm
    · refine Iff.trans ?_ WP_some.symm
      dsimp only
      refine Iff.trans ?_ (WP_datz (m := evE E sl S2 b) (Q := fun d S3 => op1 (get2S r k d) fun z => Q z S3))
      rcases dat? (fz? (evE E sl S2 b)) with _ | ⟨d, S3⟩
      · exact WP_none.trans WP_none.symm
      · refine Iff.trans ?_ WP_some.symm
        exact WP_map
theorem w_dset {a b : Ex} : WP (evE E sl S (.dset a b)) Q ↔ WP (evE E sl S a) fun x S1 => asF x fun v => asD v fun k => WP (evE E sl S1 b) fun y S2 => asF y fun u => asD u fun d => keyFits [] k = true ∧ Q (.new (.dct [(k, d)])) S2 := by
  conv => lhs; unfold evE
  refine Iff.trans ?_ (WP_datz (m := evE E sl S a) (Q := fun k S1 => WP (evE E sl S1 b) fun y S2 => asF y fun u => asD u fun d => keyFits [] k = true ∧ Q (.new (.dct [(k, d)])) S2))
  rcases dat? (fz? (evE E sl S a)) with _ | ⟨k, S1⟩
  · exact WP_none.trans WP_none.symm
  · refine Iff.trans ?_ WP_some.symm
    dsimp only
    refine Iff.trans ?_ (WP_datz (m := evE E sl S1 b) (Q := fun d S2 => keyFits [] k = true ∧ Q (.new (.dct [(k, d)])) S2))
    rcases dat? (fz? (evE E sl S1 b)) with _ | ⟨d, S2⟩
    · exact WP_none.trans WP_none.symm
    · refine Iff.trans ?_ WP_some.symm
      dsimp only
      split
      · rename_i h; rw [WP_some]; exact ⟨fun q => ⟨h, q⟩, fun q => q.2⟩
      · rename_i h; rw [WP_none]; exact ⟨False.elim, fun q => h q.1⟩
/-- a comprehension's turn, asked backwards -/
def wpLc (E : Ev) (sl : Slots) (elt : Ex) (tg : Tg) (cd : Exo) (own : List Nat) (d : D) (S : Store) (Q : Option D → Store → Prop) : Prop := op1 (asgT tg (.val d) (wipeS sl own)) fun sl1 => WP (evC E sl1 S cd) fun b S1 => if b = true then WP (evE E sl1 S1 elt) (fun r S2 => asF r fun v => asD v fun y => Q (some y) S2) else Q none S1
def lcS (E : Ev) (sl : Slots) (elt : Ex) (tg : Tg) (cd : Exo) (own : List Nat) : D → Store → Option (Option D × Store) := fun d S => match asgT tg (.val d) (wipeS sl own) with
  | some sl1 => match evC E sl1 S cd with
    | some (true, S1) => (dat? (fz? (evE E sl1 S1 elt))).map fun p => (some p.1, p.2)
    | some (false, S1) => some (none, S1)
    | none => none
  | none => none
theorem w_lcS {elt : Ex} {tg : Tg} {cd : Exo} {own : List Nat} {d : D} {Q : Option D → Store → Prop} : WP (lcS E sl elt tg cd own d S) Q ↔ wpLc E sl elt tg cd own d S Q := by
  unfold lcS wpLc
  cases asgT tg (.val d) (wipeS sl own) with
  | none => rw [op1_none]; exact WP_none
  | some sl1 =>
    rw [op1_some]
    dsimp only
    rcases evC E sl1 S cd with _ | ⟨b, S1⟩
    · exact Iff.trans WP_none WP_none.symm
    · rw [WP_some]
      cases b with
      | true =>
        rw [if_pos rfl, ← WP_datz]
        dsimp only
        rcases dat? (fz? (evE E sl1 S1 elt)) with _ | ⟨y, S2⟩
        · exact Iff.trans WP_none WP_none.symm
        · rw [WP_some]; exact WP_some
      | false => rw [if_neg Bool.false_ne_true]; exact WP_some
theorem w_lc {elt : Ex} {tg : Tg} {it : Itr} {cd : Exo} {own : List Nat} : WP (evE E sl S (.lc elt tg it cd own)) Q ↔ WP (evI E sl S it) fun ds S1 => WP (lcGo (lcS E sl elt tg cd own) ds S1) fun ys S2 => Q (.new (.lst ys)) S2 := by
  conv => lhs; unfold evE
  rcases evI E sl S it with _ | ⟨a1, S1⟩
  · exact WP_none.trans WP_none.symm
  · refine Iff.trans ?_ WP_some.symm
    dsimp only
    change WP (match lcGo (lcS E sl elt tg cd own) a1 S1 with | some (ys, S2) => some (RV.new (.lst ys), S2) | none => none) Q ↔ _
    rcases lcGo (lcS E sl elt tg cd own) a1 S1 with _ | ⟨a2, S2⟩
    · exact WP_none.trans WP_none.symm
    · refine Iff.trans ?_ WP_some.symm
      dsimp only
      exact WP_some
/-- a dict comprehension's turn -/
def wpDc (E : Ev) (sl : Slots) (k v : Ex) (tg : Tg) (cd : Exo) (own : List Nat) (d : D) (S : Store) (Q : Option D → Store → Prop) : Prop := op1 (asgT tg (.val d) (wipeS sl own)) fun sl1 => WP (evC E sl1 S cd) fun b S1 => if b = true then WP (evE E sl1 S1 k) fun x S2 => asF x fun x => asD x fun dk => WP (evE E sl1 S2 v) fun y S3 => asF y fun y => asD y fun dv => Q (some (.tuple [dk, dv])) S3 else Q none S1
def dcS (E : Ev) (sl : Slots) (k v : Ex) (tg : Tg) (cd : Exo) (own : List Nat) : D → Store → Option (Option D × Store) := fun d S => match asgT tg (.val d) (wipeS sl own) with
  | some sl1 => match evC E sl1 S cd with
    | some (true, S1) => match dat? (fz? (evE E sl1 S1 k)) with
      | some (dk, S2) => (dat? (fz? (evE E sl1 S2 v))).map fun p => (some (.tuple [dk, p.1]), p.2)
      | none => none
    | some (false, S1) => some (none, S1)
    | none => none
  | none => none
theorem w_dcS {k v : Ex} {tg : Tg} {cd : Exo} {own : List Nat} {d : D} {Q : Option D → Store → Prop} : WP (dcS E sl k v tg cd own d S) Q ↔ wpDc E sl k v tg cd own d S Q := by
  unfold dcS wpDc
  cases asgT tg (.val d) (wipeS sl own) with
  | none => rw [op1_none]; exact WP_none
  | some sl1 =>
    rw [op1_some]
    dsimp only
    rcases evC E sl1 S cd with _ | ⟨b, S1⟩
    · exact Iff.trans WP_none WP_none.symm
    · rw [WP_some]
      cases b with
      | true =>
        rw [if_pos rfl]
        dsimp only
        refine Iff.trans ?_ (WP_datz (m := evE E sl1 S1 k) (Q := fun dk S2 => WP (evE E sl1 S2 v) fun y S3 => asF y fun y => asD y fun dv => Q (some (.tuple [dk, dv])) S3))
        rcases dat? (fz? (evE E sl1 S1 k)) with _ | ⟨dk, S2⟩
        · exact Iff.trans WP_none WP_none.symm
        · refine Iff.trans ?_ WP_some.symm
          dsimp only
          refine Iff.trans ?_ (WP_datz (m := evE E sl1 S2 v) (Q := fun dv S3 => Q (some (.tuple [dk, dv])) S3))
          rcases dat? (fz? (evE E sl1 S2 v)) with _ | ⟨y, S3⟩
          · exact Iff.trans WP_none WP_none.symm
          · rw [WP_some]; exact WP_some
      | false => rw [if_neg Bool.false_ne_true]; exact WP_some
/-- a dict of pairs -/
def pairsS (ys : List D) : Option (List (D × D)) := match pairsD ys with
  | some kvs => if strKeys kvs then some kvs else none
  | none => none
theorem w_dc {k v : Ex} {tg : Tg} {it : Itr} {cd : Exo} {own : List Nat} : WP (evE E sl S (.dc k v tg it cd own)) Q ↔ WP (evI E sl S it) fun ds S1 => WP (lcGo (dcS E sl k v tg cd own) ds S1) fun ys S2 => op1 (pairsS ys) fun kvs => Q (.new (.dct (dMerge [] kvs))) S2 := by
  conv => lhs; unfold evE
  rcases evI E sl S it with _ | ⟨a1, S1⟩
  · exact WP_none.trans WP_none.symm
  · refine Iff.trans ?_ WP_some.symm
    dsimp only
    change WP (match lcGo (dcS E sl k v tg cd own) a1 S1 with | some (ys, S2) => (match pairsD ys with | some kvs => if strKeys kvs then some (RV.new (.dct (dMerge [] kvs)), S2) else none | none => none) | none => none) Q ↔ _
    rcases lcGo (dcS E sl k v tg cd own) a1 S1 with _ | ⟨a2, S2⟩
    · exact WP_none.trans WP_none.symm
    · refine Iff.trans ?_ WP_some.symm
      dsimp only
      unfold pairsS
      rcases pairsD a2 with _ | kvs
      · exact WP_none.trans op1_none.symm
      · dsimp only
        split
        · rw [op1_some]; exact WP_some
        · rw [op1_none]; exact WP_none
/-- a turn of the outer loop of a double comprehension -/
def lc2S (E : Ev) (sl : Slots) (elt : Ex) (tg : Tg) (cd : Exo) (tg1 : Tg) (it1 : Itr) (cd1 : Exo) (own own1 : List Nat) : D → Store → Option (List D × Store) := fun d S => match asgT tg (.val d) (wipeS (noOwn sl) own) with
  | some sl1 => match evC E sl1 S cd with
    | some (true, S1) => match evI E sl1 S1 it1 with
      | some (es, S2) => lcGo (lcS E sl1 elt tg1 cd1 own1) es S2
      | none => none
    | some (false, S1) => some ([], S1)
    | none => none
  | none => none
theorem w_lc2S {elt : Ex} {tg : Tg} {cd : Exo} {tg1 : Tg} {it1 : Itr} {cd1 : Exo} {own own1 : List Nat} {d : D} {Q : List D → Store → Prop} : WP (lc2S E sl elt tg cd tg1 it1 cd1 own own1 d S) Q ↔ op1 (asgT tg (.val d) (wipeS (noOwn sl) own)) fun sl1 => WP (evC E sl1 S cd) fun b S1 => if b = true then WP (evI E sl1 S1 it1) fun es S2 => WP (lcGo (lcS E sl1 elt tg1 cd1 own1) es S2) Q else Q [] S1 := by
  unfold lc2S
  cases asgT tg (.val d) (wipeS (noOwn sl) own) with
  | none => rw [op1_none]; exact WP_none
  | some sl1 =>
    rw [op1_some]
    dsimp only
    rcases evC E sl1 S cd with _ | ⟨b, S1⟩
    · exact Iff.trans WP_none WP_none.symm
    · rw [WP_some]
      cases b with
      | true =>
        rw [if_pos rfl]
        dsimp only
        rcases evI E sl1 S1 it1 with _ | ⟨es, S2⟩
        · exact Iff.trans WP_none WP_none.symm
        · rw [WP_some]
      | false => rw [if_neg Bool.false_ne_true]; exact WP_some
theorem w_lc2 {elt : Ex} {tg : Tg} {it : Itr} {cd : Exo} {tg1 : Tg} {it1 : Itr} {cd1 : Exo} {own own1 : List Nat} : WP (evE E sl S (.lc2 elt tg it cd tg1 it1 cd1 own own1)) Q ↔ WP (evI E sl S it) fun ds S1 => WP (lc2Go (lc2S E sl elt tg cd tg1 it1 cd1 own own1) ds S1) fun ys S2 => ys.length ≤ szL ∧ Q (.new (.lst ys)) S2 := by
  conv => lhs; unfold evE
  rcases evI E sl S it with _ | ⟨a1, S1⟩
  · exact WP_none.trans WP_none.symm
  · refine Iff.trans ?_ WP_some.symm
    dsimp only
    change WP (match lc2Go (lc2S E sl elt tg cd tg1 it1 cd1 own own1) a1 S1 with | some (ys, S2) => if ys.length ≤ szL then some (RV.new (.lst ys), S2) else none | none => none) Q ↔ _
    rcases lc2Go (lc2S E sl elt tg cd tg1 it1 cd1 own own1) a1 S1 with _ | ⟨a2, S2⟩
    · exact WP_none.trans WP_none.symm
    · refine Iff.trans ?_ WP_some.symm
      dsimp only
      split
      · rename_i h; rw [WP_some]; exact ⟨fun q => ⟨h, q⟩, fun q => q.2⟩
      · rename_i h; rw [WP_none]; exact ⟨False.elim, fun q => h q.1⟩
theorem w_xnil {Q : List SV → Store → Prop} : WP (evXs E sl S .nil) Q ↔ Q [] S := by unfold evXs; exact WP_some
theorem w_xcons {a : Ex} {r : Exs} {Q : List SV → Store → Prop} : WP (evXs E sl S (.cons a r)) Q ↔ WP (evE E sl S a) fun x S1 => asF x fun v => WP (evXs E sl S1 r) fun vs S2 => Q (v :: vs) S2 := by
  conv => lhs; unfold evXs
  refine Iff.trans ?_ (WP_fz (m := evE E sl S a) (Q := fun v S1 => WP (evXs E sl S1 r) fun vs S2 => Q (v :: vs) S2))
  rcases fz? (evE E sl S a) with _ | ⟨a1, S1⟩
  · exact WP_none.trans WP_none.symm
  · refine Iff.trans ?_ WP_some.symm
    dsimp only
    rcases evXs E sl S1 r with _ | ⟨a2, S2⟩
    · exact WP_none.trans WP_none.symm
    · refine Iff.trans ?_ WP_some.symm
      dsimp only
      exact WP_some
theorem w_enil {Q : List RV → Store → Prop} : WP (evEs E sl S .nil) Q ↔ Q [] S := by unfold evEs; exact WP_some
theorem w_econs {a : Ex} {r : Exs} {Q : List RV → Store → Prop} : WP (evEs E sl S (.cons a r)) Q ↔ WP (evE E sl S a) fun x S1 => WP (evEs E sl S1 r) fun vs S2 => Q (x :: vs) S2 := by
  conv => lhs; unfold evEs
  rcases evE E sl S a with _ | ⟨a1, S1⟩
  · exact WP_none.trans WP_none.symm
  · refine Iff.trans ?_ WP_some.symm
    dsimp only
    rcases evEs E sl S1 r with _ | ⟨a2, S2⟩
    · exact WP_none.trans WP_none.symm
    · refine Iff.trans ?_ WP_some.symm
      dsimp only
      exact WP_some
theorem w_ono {Q : Option Int → Store → Prop} : WP (evO E sl S .no) Q ↔ Q none S := by unfold evO; exact WP_some
theorem w_oyes {a : Ex} {Q : Option Int → Store → Prop} : WP (evO E sl S (.yes a)) Q ↔ WP (evE E sl S a) fun r S1 => asI r fun i => Q (some i) S1 := by
  conv => lhs; unfold evO
  refine Iff.trans ?_ (WP_int (m := evE E sl S a) (Q := fun i S1 => Q (some i) S1))
  rcases int? (evE E sl S a) with _ | ⟨a1, S1⟩
  · exact WP_none.trans WP_none.symm
  · refine Iff.trans ?_ WP_some.symm
    dsimp only
    exact WP_some
theorem w_cno {Q : Bool → Store → Prop} : WP (evC E sl S .no) Q ↔ Q true S := by unfold evC; exact WP_some
theorem w_cyes {a : Ex} {Q : Bool → Store → Prop} : WP (evC E sl S (.yes a)) Q ↔ WP (evE E sl S a) fun r S1 => asB r fun i => Q i S1 := by
  unfold evC
  exact WP_bool
theorem w_iseq {e : Ex} {Q : List D → Store → Prop} : WP (evI E sl S (.seq e)) Q ↔ WP (evE E sl S e) fun r S1 => asF r fun v => op1 (seqD v) fun ds => Q ds S1 := by
  conv => lhs; unfold evI
  refine Iff.trans ?_ (WP_fz (m := evE E sl S e) (Q := fun v S1 => op1 (seqD v) fun ds => Q ds S1))
  rcases fz? (evE E sl S e) with _ | ⟨a1, S1⟩
  · exact WP_none.trans WP_none.symm
  · refine Iff.trans ?_ WP_some.symm
    dsimp only
    exact WP_map
theorem w_irng {e : Ex} {Q : List D → Store → Prop} : WP (evI E sl S (.rng e)) Q ↔ WP (evE E sl S e) fun r S1 => asI r fun i => (-(2 ^ 62) ≤ i ∧ i ≤ 16777216) ∧ Q (rngD 0 i.toNat) S1 := by
  conv => lhs; unfold evI
  refine Iff.trans ?_ (WP_int (m := evE E sl S e) (Q := fun i S1 => (-(2 ^ 62) ≤ i ∧ i ≤ 16777216) ∧ Q (rngD 0 i.toNat) S1))
  rcases int? (evE E sl S e) with _ | ⟨a1, S1⟩
  · exact WP_none.trans WP_none.symm
  · refine Iff.trans ?_ WP_some.symm
    dsimp only
    split
    · rename_i h; rw [WP_some]; exact ⟨fun q => ⟨h, q⟩, fun q => q.2⟩
    · rename_i h; rw [WP_none]; exact ⟨False.elim, fun q => h q.1⟩
theorem w_irng2 {a b : Ex} {Q : List D → Store → Prop} : WP (evI E sl S (.rng2 a b)) Q ↔ WP (evE E sl S a) fun r S1 => asI r fun i => WP (evE E sl S1 b) fun r S2 => asI r fun j =>
    (-(2 ^ 62) ≤ i ∧ i < 2 ^ 62 ∧ -(2 ^ 62) ≤ j ∧ j < 2 ^ 62 ∧ j - i ≤ 16777216) ∧ Q (rngD i (j - i).toNat) S2 := by
  conv => lhs; unfold evI
  refine Iff.trans ?_ (WP_int (m := evE E sl S a) (Q := fun i S1 => WP (evE E sl S1 b) fun r S2 => asI r fun j => (-(2 ^ 62) ≤ i ∧ i < 2 ^ 62 ∧ -(2 ^ 62) ≤ j ∧ j < 2 ^ 62 ∧ j - i ≤ 16777216) ∧ Q (rngD i (j - i).toNat) S2))
  rcases int? (evE E sl S a) with _ | ⟨a1, S1⟩
  · exact WP_none.trans WP_none.symm
  · refine Iff.trans ?_ WP_some.symm
    dsimp only
    refine Iff.trans ?_ (WP_int (m := evE E sl S1 b) (Q := fun j S2 => (-(2 ^ 62) ≤ a1 ∧ a1 < 2 ^ 62 ∧ -(2 ^ 62) ≤ j ∧ j < 2 ^ 62 ∧ j - a1 ≤ 16777216) ∧ Q (rngD a1 (j - a1).toNat) S2))
    rcases int? (evE E sl S1 b) with _ | ⟨a2, S2⟩
    · exact WP_none.trans WP_none.symm
    · refine Iff.trans ?_ WP_some.symm
      dsimp only
      split
      · rename_i h; rw [WP_some]; exact ⟨fun q => ⟨h, q⟩, fun q => q.2⟩
      · rename_i h; rw [WP_none]; exact ⟨False.elim, fun q => h q.1⟩
/-- zip's lists -/
def zipS : D → D → Option (List D)
  | .list xs, .list ys => some (zipD xs ys)
  | .tuple xs, .tuple ys => some (zipD xs ys)
  | _, _ => none
theorem w_izip {a b : Ex} {Q : List D → Store → Prop} : WP (evI E sl S (.zip a b)) Q ↔ WP (evE E sl S a) fun r S1 => asF r fun v => asD v fun x => WP (evE E sl S1 b) fun r S2 => asF r fun v => asD v fun y => op1 (zipS x y) fun ds => Q ds S2 := by
  conv => lhs; unfold evI
  refine Iff.trans ?_ (WP_datz (m := evE E sl S a) (Q := fun x S1 => WP (evE E sl S1 b) fun r S2 => asF r fun v => asD v fun y => op1 (zipS x y) fun ds => Q ds S2))
  rcases dat? (fz? (evE E sl S a)) with _ | ⟨a1, S1⟩
  · exact WP_none.trans WP_none.symm
  · refine Iff.trans ?_ WP_some.symm
    dsimp only
    refine Iff.trans ?_ (WP_datz (m := evE E sl S1 b) (Q := fun y S2 => op1 (zipS a1 y) fun ds => Q ds S2))
    rcases dat? (fz? (evE E sl S1 b)) with _ | ⟨a2, S2⟩
    · exact WP_none.trans WP_none.symm
    · refine Iff.trans ?_ WP_some.symm
      dsimp only
      cases a1 <;> cases a2 <;> first | exact WP_some.trans (op1_some (P := fun ds => Q ds S2)).symm | exact WP_none.trans op1_none.symm
def enmS : D → Option (List D)
  | .list xs => some (enmD xs)
  | .tuple xs => some (enmD xs)
  | _ => none
theorem w_ienm {a : Ex} {Q : List D → Store → Prop} : WP (evI E sl S (.enm a)) Q ↔ WP (evE E sl S a) fun r S1 => asF r fun v => asD v fun x => op1 (enmS x) fun ds => Q ds S1 := by
  rw [← WP_datz (m := evE E sl S a) (Q := fun x S1 => op1 (enmS x) fun ds => Q ds S1)]
  unfold evI
  rcases dat? (fz? (evE E sl S a)) with _ | ⟨d, S1⟩
  · exact Iff.trans WP_none WP_none.symm
  · rw [WP_some]
    cases d with
    | list xs => exact WP_some.trans (op1_some (P := fun ds => Q ds S1)).symm
    | tuple xs => exact WP_some.trans (op1_some (P := fun ds => Q ds S1)).symm
    | _ => exact WP_none.trans op1_none.symm
end
end DL

/-! The data layer, part 21: statements asked backwards, loops, calls. -/
namespace DL
open PySem L2
/-- a table's look -/
def look {α : Type} (l : List (Nat × α)) (f : Nat) : Option α := (l.find? fun p => p.1 == f).map (·.2)
/-- behind a statement -/
def thenO (k : Slots → Store → Prop) (Q : Out → Prop) : Out → Prop
  | .nx sl S => k sl S
  | o => Q o
def retO (Q : SV → Store → Prop) : Out → Prop
  | .ret v S => Q v S
  | .nx _ S => Q (.val .none) S
  | _ => False
/-- a turn's end -/
def loopQ (N : Slots → Store → Prop) (Q : Out → Prop) : Out → Prop
  | .nx sl S => N sl S
  | .cnt sl S => N sl S
  | .brk sl S => Q (.nx sl S)
  | .ret v S => Q (.ret v S)
section
variable {k N : Slots → Store → Prop} {Q : Out → Prop} {R : SV → Store → Prop} {sl : Slots} {S : Store} {v : SV}
theorem thenO_nx : thenO k Q (.nx sl S) ↔ k sl S := Iff.rfl
theorem thenO_ret : thenO k Q (.ret v S) ↔ Q (.ret v S) := Iff.rfl
theorem thenO_brk : thenO k Q (.brk sl S) ↔ Q (.brk sl S) := Iff.rfl
theorem thenO_cnt : thenO k Q (.cnt sl S) ↔ Q (.cnt sl S) := Iff.rfl
theorem retO_ret : retO R (.ret v S) ↔ R v S := Iff.rfl
theorem retO_nx : retO R (.nx sl S) ↔ R (.val .none) S := Iff.rfl
theorem retO_brk : retO R (.brk sl S) ↔ False := Iff.rfl
theorem retO_cnt : retO R (.cnt sl S) ↔ False := Iff.rfl
theorem loopQ_nx : loopQ N Q (.nx sl S) ↔ N sl S := Iff.rfl
theorem loopQ_cnt : loopQ N Q (.cnt sl S) ↔ N sl S := Iff.rfl
theorem loopQ_brk : loopQ N Q (.brk sl S) ↔ Q (.nx sl S) := Iff.rfl
theorem loopQ_ret : loopQ N Q (.ret v S) ↔ Q (.ret v S) := Iff.rfl
end
/-- a value for a slot -/
def slotR : RV → Option SV
  | .sv v => some v
  | .new o => some (.own o)
  | .bor _ => none
theorem slotR_sv {v : SV} : slotR (.sv v) = some v := rfl
theorem slotR_new {v : OV} : slotR (.new v) = some (.own v) := rfl
def frzS (i : Nat) (sl : Slots) : Slots := match sl[i]? with
  | some (some (.own o)) => sl.set i (some o.fz)
  | _ => sl
def forB (E : Ev) (tg : Tg) (b : Sms) : D → Slots → Store → Option Out := fun d sl S => match asgT tg (.val d) sl with
  | some sl1 => exSs E sl1 S b
  | none => none
section
variable {E : Ev} {sl : Slots} {S : Store} {Q : Out → Prop}
theorem s_nil : op1 (exSs E sl S .nil) Q ↔ Q (.nx sl S) := by unfold exSs; exact op1_some
theorem s_cons {s : Sm} {r : Sms} : op1 (exSs E sl S (.cons s r)) Q ↔ op1 (exS E sl S s) (thenO (fun sl S => op1 (exSs E sl S r) Q) Q) := by
  conv => lhs; unfold exSs
  rcases exS E sl S s with _ | o
  · exact op1_none.trans op1_none.symm
  · rw [op1_some]
    cases o with
    | nx sl S => exact Iff.rfl
    | _ => exact op1_some
theorem s_asg {i : Nat} {e : Ex} : op1 (exS E sl S (.asg (.nm i) e)) Q ↔ WP (evE E sl S e) fun r S1 => op1 (slotR r) fun v => Q (.nx (sl.set i (some v)) S1) := by
  unfold exS
  rcases evE E sl S e with _ | ⟨r, S1⟩
  · exact op1_none.trans WP_none.symm
  · rw [WP_some]
    cases r with
    | sv v => exact op1_some.trans (op1_some (P := fun v => Q (.nx (sl.set i (some v)) S1))).symm
    | new v => exact op1_some.trans (op1_some (P := fun v => Q (.nx (sl.set i (some v)) S1))).symm
    | bor v => exact op1_none.trans (op1_none (P := fun v => Q (.nx (sl.set i (some v)) S1))).symm
theorem s_asgT {is : List Nat} {e : Ex} : op1 (exS E sl S (.asg (.tp is) e)) Q ↔ WP (evE E sl S e) fun r S1 => asF r fun v => op1 (asgT (.tp is) v sl) fun sl1 => Q (.nx sl1 S1) := by
  refine Iff.trans ?_ (WP_fz (m := evE E sl S e) (Q := fun v S1 => op1 (asgT (.tp is) v sl) fun sl1 => Q (.nx sl1 S1)))
  unfold exS
  rcases fz? (evE E sl S e) with _ | ⟨r, S1⟩
  · exact op1_none.trans WP_none.symm
  · rw [WP_some]
    exact op1_map
theorem s_par {is : List Nat} {es : Exs} : op1 (exS E sl S (.par is es)) Q ↔ WP (evEs E sl S es) fun rs S1 => op1 (setRs is rs sl) fun sl1 => Q (.nx sl1 S1) := by
  unfold exS
  rcases evEs E sl S es with _ | ⟨rs, S1⟩
  · exact op1_none.trans WP_none.symm
  · rw [WP_some]
    dsimp only
    rcases setRs is rs sl with _ | sl1
    · exact op1_none.trans op1_none.symm
    · exact op1_some.trans (op1_some (P := fun sl1 => Q (.nx sl1 S1))).symm
theorem s_put {i : Nat} {kk e : Ex} : op1 (exS E sl S (.put i kk e)) Q ↔ WP (evE E sl S e) fun r S1 => asF r fun v => asD v fun d => WP (evE E sl S1 kk) fun r S2 => asF r fun v => asD v fun dk => op1 (putS sl S2 i dk d) fun p => Q (.nx p.1 p.2) := by
  refine Iff.trans ?_ (WP_datz (m := evE E sl S e) (Q := fun d S1 => WP (evE E sl S1 kk) fun r S2 => asF r fun v => asD v fun dk => op1 (putS sl S2 i dk d) fun p => Q (.nx p.1 p.2)))
  unfold exS
  rcases dat? (fz? (evE E sl S e)) with _ | ⟨d, S1⟩
  · exact op1_none.trans WP_none.symm
  · rw [WP_some]
    refine Iff.trans ?_ (WP_datz (m := evE E sl S1 kk) (Q := fun dk S2 => op1 (putS sl S2 i dk d) fun p => Q (.nx p.1 p.2)))
    dsimp only
    rcases dat? (fz? (evE E sl S1 kk)) with _ | ⟨dk, S2⟩
    · exact op1_none.trans WP_none.symm
    · rw [WP_some]
      exact op1_map
/-- x.append -/
def appS (sl : Slots) (i : Nat) (v : D) : Option Slots := match sl[i]? with
  | some (some (.own (.lst ds))) => if ds.length < szL then some (sl.set i (some (.own (.lst (ds ++ [v]))))) else none
  | _ => none
theorem s_app {i : Nat} {e : Ex} : op1 (exS E sl S (.app i e)) Q ↔ WP (evE E sl S e) fun r S1 => asF r fun v => asD v fun d => op1 (appS sl i d) fun sl1 => Q (.nx sl1 S1) := by
  refine Iff.trans ?_ (WP_datz (m := evE E sl S e) (Q := fun d S1 => op1 (appS sl i d) fun sl1 => Q (.nx sl1 S1)))
  unfold exS
  rcases dat? (fz? (evE E sl S e)) with _ | ⟨d, S1⟩
  · exact op1_none.trans WP_none.symm
  · rw [WP_some]
    unfold appS
    dsimp only
    rcases sl[i]? with _ | _ | v
    · exact op1_none.trans (op1_none (P := fun sl1 => Q (.nx sl1 S1))).symm
    · exact op1_none.trans (op1_none (P := fun sl1 => Q (.nx sl1 S1))).symm
    · cases v with
      | own o =>
        cases o with
        | lst ds =>
          dsimp only
          split
          · exact op1_some.trans (op1_some (P := fun sl1 => Q (.nx sl1 S1))).symm
          · exact op1_none.trans (op1_none (P := fun sl1 => Q (.nx sl1 S1))).symm
        | dct kvs => exact op1_none.trans (op1_none (P := fun sl1 => Q (.nx sl1 S1))).symm
      | _ => exact op1_none.trans (op1_none (P := fun sl1 => Q (.nx sl1 S1))).symm
def popS (sl : Slots) (j i : Nat) : Option Slots := match sl[i]? with
  | some (some (.own (.lst ds))) => match ds.getLast? with
    | some d => if i = j then none else some ((sl.set i (some (.own (.lst ds.dropLast)))).set j (some (.val d)))
    | none => none
  | _ => none
theorem s_pop {i j : Nat} : op1 (exS E sl S (.pop j i)) Q ↔ op1 (popS sl j i) fun sl1 => Q (.nx sl1 S) := by
  unfold exS popS
  rcases sl[i]? with _ | _ | v
  · exact op1_none.trans (op1_none (P := fun sl1 => Q (.nx sl1 S))).symm
  · exact op1_none.trans (op1_none (P := fun sl1 => Q (.nx sl1 S))).symm
  · cases v with
    | own o =>
      cases o with
      | lst ds =>
        dsimp only
        rcases ds.getLast? with _ | d
        · exact op1_none.trans (op1_none (P := fun sl1 => Q (.nx sl1 S))).symm
        · dsimp only
          split
          · exact op1_none.trans (op1_none (P := fun sl1 => Q (.nx sl1 S))).symm
          · exact op1_some.trans (op1_some (P := fun sl1 => Q (.nx sl1 S))).symm
      | dct kvs => exact op1_none.trans (op1_none (P := fun sl1 => Q (.nx sl1 S))).symm
    | _ => exact op1_none.trans (op1_none (P := fun sl1 => Q (.nx sl1 S))).symm
theorem s_ret {e : Ex} : op1 (exS E sl S (.ret e)) Q ↔ WP (evE E sl S e) fun r S1 => asF r fun v => asFr v fun v => Q (.ret v S1) := by
  refine Iff.trans ?_ (WP_fz (m := evE E sl S e) (Q := fun v S1 => asFr v fun v => Q (.ret v S1)))
  unfold exS
  rcases fz? (evE E sl S e) with _ | ⟨r, S1⟩
  · exact op1_none.trans WP_none.symm
  · rw [WP_some]
    dsimp only
    unfold asFr
    split
    · rename_i h; rw [op1_some]; exact ⟨fun q => ⟨h, q⟩, fun q => q.2⟩
    · rename_i h; rw [op1_none]; exact ⟨False.elim, fun q => h q.1⟩
theorem s_retN : op1 (exS E sl S .retN) Q ↔ Q (.ret (.val .none) S) := by unfold exS; exact op1_some
theorem s_ife {t : Ex} {a b : Sms} : op1 (exS E sl S (.ife t a b)) Q ↔ WP (evE E sl S t) fun r S1 => asB r fun z => if z = true then op1 (exSs E sl S1 a) Q else op1 (exSs E sl S1 b) Q := by
  refine Iff.trans ?_ (WP_bool (m := evE E sl S t) (Q := fun z S1 => if z = true then op1 (exSs E sl S1 a) Q else op1 (exSs E sl S1 b) Q))
  unfold exS
  rcases bool? (evE E sl S t) with _ | ⟨z, S1⟩
  · exact op1_none.trans WP_none.symm
  · rw [WP_some]
    cases z with
    | true => rw [if_pos rfl]
    | false => rw [if_neg Bool.false_ne_true]
theorem s_forr {tg : Tg} {it : Itr} {b : Sms} : op1 (exS E sl S (.forr tg it b)) Q ↔ WP (evI E sl S it) fun ds S1 => op1 (forGo (forB E tg b) ds sl S1) Q := by
  unfold exS
  rcases evI E sl S it with _ | ⟨ds, S1⟩
  · exact op1_none.trans WP_none.symm
  · rw [WP_some]; exact Iff.rfl
theorem s_forB {tg : Tg} {b : Sms} {d : D} : op1 (forB E tg b d sl S) Q ↔ op1 (asgT tg (.val d) sl) fun sl1 => op1 (exSs E sl1 S b) Q := by
  unfold forB
  rcases asgT tg (.val d) sl with _ | sl1
  · exact op1_none.trans op1_none.symm
  · rw [op1_some]
theorem s_whl {t : Ex} {b : Sms} : op1 (exS E sl S (.whl t b)) Q ↔ op1 (whlGo (fun sl S => bool? (evE E sl S t)) (fun sl S => exSs E sl S b) E.n sl S) Q := by unfold exS; exact Iff.rfl
theorem s_expr {e : Ex} : op1 (exS E sl S (.expr e)) Q ↔ WP (evE E sl S e) fun r S1 => Q (.nx sl S1) := by
  unfold exS
  rcases evE E sl S e with _ | ⟨r, S1⟩
  · exact op1_none.trans WP_none.symm
  · rw [WP_some]; exact op1_some
theorem s_pass : op1 (exS E sl S .pass) Q ↔ Q (.nx sl S) := by unfold exS; exact op1_some
theorem s_brk : op1 (exS E sl S .brk) Q ↔ Q (.brk sl S) := by unfold exS; exact op1_some
theorem s_cnt : op1 (exS E sl S .cnt) Q ↔ Q (.cnt sl S) := by unfold exS; exact op1_some
theorem s_never : op1 (exS E sl S .never) Q ↔ False := by unfold exS; exact op1_none
theorem s_frz {i : Nat} : op1 (exS E sl S (.frz i)) Q ↔ Q (.nx (frzS i sl) S) := by
  unfold exS frzS
  rcases sl[i]? with _ | _ | v
  · exact op1_some
  · exact op1_some
  · cases v <;> exact op1_some
end
/-- a walk over a list: I by the turn -/
theorem forGo_inv {f : D → Slots → Store → Option Out} {ds : List D} {sl : Slots} {S : Store} {Q : Out → Prop} (I : Nat → Slots → Store → Prop) (h0 : I 0 sl S)
    (step : ∀ i d sl S, ds[i]? = some d → I i sl S → op1 (f d sl S) (loopQ (I (i + 1)) Q)) (done : ∀ sl S, I ds.length sl S → Q (.nx sl S)) : op1 (forGo f ds sl S) Q := by
  have : ∀ (es : List D) (i : Nat) sl S, ds.drop i = es → i ≤ ds.length → I i sl S → op1 (forGo f es sl S) Q := by
    intro es
    induction es with
    | nil =>
      intro i sl S e hi h
      have : i = ds.length := by
        have := List.drop_eq_nil_iff.mp e
        omega
      subst this
      exact op1_some.mpr (done _ _ h)
    | cons d es ih =>
      intro i sl S e hi h
      have hlt : i < ds.length := by
        rcases Nat.lt_or_ge i ds.length with q | q
        · exact q
        · rw [List.drop_eq_nil_of_le q] at e; cases e
      rw [List.drop_eq_getElem_cons hlt] at e
      cases e
      obtain ⟨o, e1, e2⟩ := step i _ sl S (List.getElem?_eq_getElem hlt) h
      have ih := ih (i + 1)
      unfold forGo
      rw [e1]
      cases o with
      | nx sl S => exact ih sl S rfl hlt e2
      | cnt sl S => exact ih sl S rfl hlt e2
      | brk sl S => exact op1_some.mpr e2
      | ret v S => exact op1_some.mpr e2
  exact this ds 0 sl S (List.drop_zero ..) (Nat.zero_le _) h0
/-- a while: I with its measure -/
theorem whlGo_inv {t : Slots → Store → Option (Bool × Store)} {f : Slots → Store → Option Out} {n : Nat} {sl : Slots} {S : Store} {Q : Out → Prop} (I : Nat → Slots → Store → Prop) {m : Nat} (h0 : I m sl S) (hm : m < n)
    (step : ∀ m sl S, I m sl S → WP (t sl S) fun b S1 => if b = true then op1 (f sl S1) (loopQ (fun sl S => ∃ m', m' < m ∧ I m' sl S) Q) else Q (.nx sl S1)) : op1 (whlGo t f n sl S) Q := by
  induction n generalizing m sl S with
  | zero => omega
  | succ n ih =>
    obtain ⟨b, S1, e1, e2⟩ := step m sl S h0
    unfold whlGo
    rw [e1]
    cases b with
    | false =>
      rw [if_neg Bool.false_ne_true] at e2
      exact op1_some.mpr e2
    | true =>
      rw [if_pos rfl] at e2
      obtain ⟨o, e3, e4⟩ := e2
      dsimp only
      rw [e3]
      cases o with
      | nx sl S => obtain ⟨m', h1, h2⟩ := e4; exact ih h2 (by omega)
      | cnt sl S => obtain ⟨m', h1, h2⟩ := e4; exact ih h2 (by omega)
      | brk sl S => exact op1_some.mpr e4
      | ret v S => exact op1_some.mpr e4
/-- a comprehension without effects -/
theorem lcGo_pure {f : D → Store → Option (Option D × Store)} {ds : List D} {S : Store} {Q : List D → Store → Prop} (g : D → Option D) (h : ∀ d ∈ ds, f d S = some (g d, S)) : WP (lcGo f ds S) Q ↔ Q (ds.filterMap g) S := by
  have : lcGo f ds S = some (ds.filterMap g, S) := by
    induction ds with
    | nil => rfl
    | cons d ds ih =>
      have ih := ih fun e he => h e (List.mem_cons_of_mem _ he)
      unfold lcGo
      rw [h d List.mem_cons_self]
      cases q : g d with
      | none => simp only [List.filterMap_cons, q]; exact ih
      | some y => simp only [List.filterMap_cons, q]; rw [ih]
  rw [this, WP_some]
/-- a comprehension with effects: I by the turn and what has come -/
theorem lcGo_inv {f : D → Store → Option (Option D × Store)} {ds : List D} {S : Store} {Q : List D → Store → Prop} (I : Nat → List D → Store → Prop) (h0 : I 0 [] S)
    (step : ∀ i d ys S, ds[i]? = some d → I i ys S → WP (f d S) fun o S1 => I (i + 1) (match o with | some y => ys ++ [y] | none => ys) S1) (done : ∀ ys S, I ds.length ys S → Q ys S) : WP (lcGo f ds S) Q := by
  have : ∀ (es : List D) (i : Nat) (ys : List D) S, ds.drop i = es → i ≤ ds.length → I i ys S → WP (lcGo f es S) fun zs S => Q (ys ++ zs) S := by
    intro es
    induction es with
    | nil =>
      intro i ys S e hi h
      have : i = ds.length := by
        have := List.drop_eq_nil_iff.mp e
        omega
      subst this
      exact WP_some.mpr (by rw [List.append_nil]; exact done _ _ h)
    | cons d es ih =>
      intro i ys S e hi h
      have hlt : i < ds.length := by
        rcases Nat.lt_or_ge i ds.length with q | q
        · exact q
        · rw [List.drop_eq_nil_of_le q] at e; cases e
      rw [List.drop_eq_getElem_cons hlt] at e
      cases e
      obtain ⟨o, S1, e1, e2⟩ := step i _ ys S (List.getElem?_eq_getElem hlt) h
      unfold lcGo
      rw [e1]
      cases o with
      | none => exact ih (i + 1) ys S1 rfl hlt e2
      | some y =>
        obtain ⟨zs, S2, e3, e4⟩ := ih (i + 1) (ys ++ [y]) S1 rfl hlt e2
        exact ⟨y :: zs, S2, by dsimp only; rw [e3], by rw [List.append_assoc] at e4; exact e4⟩
  have := this ds 0 [] S (List.drop_zero ..) (Nat.zero_le _) h0
  exact this
theorem run_eq {ds : Nat → Option Df} {cs : Nat → Option D} {n k f : Nat} {d : Df} {vs : List SV} {S : Store} {Q : SV → Store → Prop} (h : ds f = some d) (hl : vs.length = d.params.length) :
    WP (run ds cs n (k + 1) f vs S) Q ↔ op1 (exSs ⟨run ds cs n k, cs, n⟩ (startS d vs) S d.body) (retO Q) := by
  conv => lhs; unfold run
  rw [h]
  dsimp only
  rw [if_pos hl]
  rcases exSs ⟨run ds cs n k, cs, n⟩ (startS d vs) S d.body with _ | o
  · exact WP_none.trans op1_none.symm
  · rw [op1_some]
    cases o with
    | nx sl S => exact WP_some
    | ret v S => exact WP_some
    | brk sl S => exact WP_none
    | cnt sl S => exact WP_none
end DL

/-! The data layer, part 19: the head's facts. -/
namespace DL
open PySem PySem.Spec PyProof.Rows L2
/-- a module's constant -/
inductive Kd where
  | str (z : Str)
  | int (i : Int)
  | tup (zs : List Str)
def Kd.d : Kd → D
  | .str z => .str z
  | .int i => .int i
  | .tup zs => .tuple (zs.map .str)
def strFit (z : Str) : Bool := PyData.strOk z && decide (z.length ≤ 16777216)
/-- a tuple at the top, without a dict of its own -/
def tupC (K : Frg) (x : Str) (vs : List He.Dv) : Bool := match K.lookup (He.ga K x) with
  | some ⟨.type c, none, .seq its _, _⟩ => decide (c = "tuple") && (decide (its.size ≤ sizeLine) && He.relAll (vs.map (He.Dv.v K)) its.toList)
  | _ => false
theorem tupC_ok {K : Frg} {x : Str} {vs : List He.Dv} (h : tupC K x vs = true) (F : Hp) : StT K F (He.ga K x) (vs.map (He.Dv.v K)) := by
  unfold tupC at h
  cases q : K.lookup (He.ga K x) with
  | none =>
    rw [q] at h
    cases h
  | some o =>
    obtain ⟨oc, od, dt, osl⟩ := o
    rw [q] at h
    cases oc with
    | type c =>
      cases od with
      | none =>
        cases dt with
        | seq its n =>
          have h : (decide (c = "tuple") && (decide (its.size ≤ sizeLine) && He.relAll (vs.map (He.Dv.v K)) its.toList)) = true := h
          rw [Bool.and_eq_true, Bool.and_eq_true] at h
          exact .inr ⟨_, its, n, q, congrArg Value.type (of_decide_eq_true h.1), rfl, rfl, of_decide_eq_true h.2.1, He.relAll_ok h.2.2⟩
        | _ => cases h
      | some a => cases dt <;> cases h
    | _ => cases dt <;> cases h
def Kd.ok (K : Frg) (x : Str) : Kd → Bool
  | .str z => (He.Fa.str x z).ok K && strFit z
  | .int i => (He.Fa.int x i).ok K
  | .tup zs => (He.Fa.glo x).ok K && (tupC K x (zs.map .str) && (zs.all strFit && decide (zs.length ≤ 16777216)))
theorem rp_strs {K : Frg} {F : Hp} : ∀ {zs : List Str}, zs.all strFit = true → Rps K F ((zs.map He.Dv.str).map (He.Dv.v K)) (zs.map PyData.str)
  | [], _ => .nil
  | z :: zs, h => by
    rw [List.all_cons, Bool.and_eq_true] at h
    have h1 := h.1
    unfold strFit at h1
    rw [Bool.and_eq_true, decide_eq_true_eq] at h1
    exact .cons (.str h1.1 (by rw [sizeLine_eq]; omega)) (rp_strs h.2)
theorem Kd.says {K : Frg} {h : Heap} {mg : Str → Option Value} (X : K.In h) (Gn : h.Ns mainGlobals mg) {x : Str} : ∀ {c : Kd}, c.ok K x = true → ∃ u v, mg x = some u ∧ RelV v u ∧ Rp K (fun _ => none) v c.d
  | .str z, e => by
    have e : ((He.Fa.str x z).ok K && strFit z) = true := e
    rw [Bool.and_eq_true] at e
    obtain ⟨t, q⟩ := He.str_ok X Gn e.1
    have h1 := e.2
    unfold strFit at h1
    rw [Bool.and_eq_true, decide_eq_true_eq] at h1
    exact ⟨_, .str z, q, ⟨t, rfl⟩, .str h1.1 (by rw [sizeLine_eq]; omega)⟩
  | .int i, e => by
    obtain ⟨t, q⟩ := He.int_ok X Gn (i := i) (x := x) e
    exact ⟨_, .int i, q, ⟨t, rfl⟩, .int i⟩
  | .tup zs, e => by
    have e : ((He.Fa.glo x).ok K && (tupC K x (zs.map .str) && (zs.all strFit && decide (zs.length ≤ 16777216)))) = true := e
    rw [Bool.and_eq_true, Bool.and_eq_true, Bool.and_eq_true, decide_eq_true_eq] at e
    obtain ⟨e1, e2, e3, e4⟩ := e
    refine ⟨_, .ref (He.ga K x), He.glo_ok X Gn e1, rfl, ?_⟩
    exact .tup (tupC_ok e2 _) (by rw [List.length_map, List.length_map, sizeLine_eq]; omega) (rp_strs e3)
abbrev AlT : Type := Bool × He.AlD
def obsT (fa : List He.Fa) (fn : List He.DefD) (tb : List (Nat × Str × Kd)) (K : Frg) : AlT := (tb.all (fun p => p.2.2.ok K p.2.1), He.obsD fa fn K)
def SaysT (fa : List He.Fa) (fn : List He.DefD) (tb : List (Nat × Str × Kd)) (K : Frg) : Prop := obsT fa fn tb K = (true, He.valD fn)
def obsTG (n : Nat) (fa : List He.Fa) (fn : List He.DefD) (tb : List (Nat × Str × Kd)) (g : Addr → Option Obj) : AlT := obsT fa fn tb (He.frG g (He.asD g n))
def hookT (n : Nat) (fa : List He.Fa) (fn : List He.DefD) (tb : List (Nat × Str × Kd)) : PySem.W.Hook where
  α := AlT
  obs := fun s => obsTG n fa fn tb s.heap.get?
  val := fun _ => (true, He.valD fn)
  says := fun _ h => ∃ K : PySem.W.Frag, K.In h ∧ SaysT fa fn tb K
  of := fun _ _ e => ⟨_, He.frG_in, e⟩
  keeps := fun _ _ _ ⟨K, hK, c⟩ k => ⟨K, PySem.W.Frag.In.keeps hK k, c⟩
theorem obsTG_eq {n : Nat} {fa : List He.Fa} {fn : List He.DefD} {tb : List (Nat × Str × Kd)} {g : Addr → Option Obj} {s : Shared} (h : ∀ a, g a = s.heap.get? a) : obsTG n fa fn tb g = (hookT n fa fn tb).obs s := by
  have e : g = s.heap.get? := funext h
  rw [e] <;> rfl
section
variable {ffa : List He.Fa} {ffn : List He.DefD} {ttb : List (Nat × Str × Kd)} {K : Frg}
theorem SaysT.d (c : SaysT ffa ffn ttb K) : He.SaysD ffa ffn K := congrArg (fun z : AlT => z.2) c
theorem SaysT.tb (c : SaysT ffa ffn ttb K) {p : Nat × Str × Kd} (h : p ∈ ttb) : p.2.2.ok K p.2.1 = true := by
  have : ttb.all (fun p => p.2.2.ok K p.2.1) = true := congrArg (fun z : AlT => z.1) c
  exact List.all_eq_true.mp this p h
theorem SaysT.free (c : SaysT ffa ffn ttb K) {h : Heap} {mg : Str → Option Value} (X : K.In h) (Gn : h.Ns mainGlobals mg) {x : Str} (hx : He.Fa.free x ∈ ffa) : mg x = none := by
  obtain ⟨i, hi⟩ := List.getElem?_of_mem hx
  exact He.free_ok X Gn (c.d.fact i hi)
theorem SaysT.glo (c : SaysT ffa ffn ttb K) {h : Heap} {mg : Str → Option Value} (X : K.In h) (Gn : h.Ns mainGlobals mg) {x : Str} (hx : He.Fa.glo x ∈ ffa) : mg x = some (.ref (He.ga K x)) := by
  obtain ⟨i, hi⟩ := List.getElem?_of_mem hx
  exact He.glo_ok X Gn (c.d.fact i hi)
/-- what the generator prints of a def -/
structure Row where
  f : Nat
  d : Df
  st : Stmt
def Row.D (r : Row) : He.DefD := ⟨(r.d.name, none), r.d.name, r.d.name, defArgs r.st, defBody r.st, defScope r.st, [], []⟩
/-- binding positional arguments -/
def BindsP (r : Row) : Prop := ∀ (kV doc pm : Value) (an : Option Addr) (cdv ct : Value) (us : List Value), us.length = r.d.params.length → bindArgs (PySem.W.fnOf r.d.name r.d.name (defArgs r.st) (defBody r.st) (defScope r.st) .none kV doc pm an cdv ct) ⟨us, []⟩ = pure (r.d.params.zip us)
def nodupB (l : List Str) : Bool := decide l.Nodup
def scopeB (r : Row) : Bool := decide ((defScope r.st).kind = .function) && (!(defScope r.st).isCoroutine && (!(defScope r.st).isGenerator && (decide r.d.N.Nodup && (decide (r.d.N.take r.d.params.length = r.d.params) &&
  (r.d.params.all (fun x => (defScope r.st).names.lookup x == some .local || (defScope r.st).names.lookup x == some .cell) && (defScope r.st).names.all fun y => y.2 != .free)))))
theorem scopeB_ok {r : Row} (h : scopeB r = true) : FnScope r.d.N r.d.params (defScope r.st) := by
  unfold scopeB at h
  simp only [Bool.and_eq_true, decide_eq_true_eq, Bool.not_eq_true'] at h
  obtain ⟨h1, h2, h3, h4, h5, h6, h7⟩ := h
  refine ⟨h1, h2, h3, h4, h5, fun x hx => ?_, fun y hy => ?_⟩
  · have := List.all_eq_true.mp h6 x hx
    rw [Bool.or_eq_true] at this
    exact this.imp eq_of_beq eq_of_beq
  · have := List.all_eq_true.mp h7 y hy
    exact bne_iff_ne.mp this
def rowB (G : Pg) (r : Row) : Bool := scopeB r && chSs G ⟨r.d.N, defScope r.st, fun _ => true⟩ r.d.body (defBody r.st)
/-- the program's own tables -/
structure Tb where
  rows : List Row
  con : List (Nat × Str × Kd)
def Tb.ds (t : Tb) (f : Nat) : Option Df := (t.rows.find? fun r => r.f == f).map (·.d)
def Tb.cs (t : Tb) (g : Nat) : Option D := (t.con.find? fun r => r.1 == g).map (·.2.2.d)
def Tb.gn (t : Tb) (g : Nat) : Option Str := (t.con.find? fun r => r.1 == g).map (·.2.1)
theorem look_map {α β : Type} (g : β → Nat) (v : β → α) (f : Nat) : ∀ l : List β, (l.find? fun r => g r == f).map v = look (l.map fun r => (g r, v r)) f
  | [] => rfl
  | r :: l => by
    unfold look
    rw [List.map_cons, List.find?_cons, List.find?_cons]
    cases h : g r == f with
    | true => simp [h]
    | false => simp only [h]; exact look_map g v f l
theorem Tb.ds_look (t : Tb) : t.ds = look (t.rows.map fun r => (r.f, r.d)) := funext fun f => look_map (fun r : Row => r.f) (fun r => r.d) f t.rows
theorem Tb.cs_look (t : Tb) : t.cs = look (t.con.map fun r => (r.1, r.2.2.d)) := funext fun f => look_map (fun r : Nat × Str × Kd => r.1) (fun r => r.2.2.d) f t.con
def Tb.G (t : Tb) : Pg := ⟨t.ds, t.gn⟩
def Tb.fn (t : Tb) : List He.DefD := t.rows.map Row.D
def Tb.fa (t : Tb) : List He.Fa := (t.rows.map fun r => .glo r.d.name) ++ bltNames.map .free
theorem Tb.def_ok (t : Tb) (c : SaysT t.fa t.fn t.con K) {h : Heap} {mg : Str → Option Value} (X : K.In h) (Gn : h.Ns mainGlobals mg) {r : Row} (hr : r ∈ t.rows) (hb : BindsP r) (hc : rowB t.G r = true) : ∃ fd, DefOk K mg t.G r.d (He.ga K r.d.name) fd := by
  have hm : Row.D r ∈ t.fn := List.mem_map.mpr ⟨r, hr, rfl⟩
  obtain ⟨i, hi⟩ := List.getElem?_of_mem hm
  obtain ⟨fd, F⟩ := c.d.def_ i hi
  unfold rowB at hc
  rw [Bool.and_eq_true] at hc
  refine ⟨fd, c.glo X Gn (List.mem_append_left _ (List.mem_map.mpr ⟨r, hr, rfl⟩)), ?_, _, _, _, F, scopeB_ok hc.1, hc.2⟩
  intro s us hl
  exact FunD.bindsA F hb s us hl
theorem Tb.top_ok (t : Tb) (c : SaysT t.fa t.fn t.con K) {h : Heap} {mg : Str → Option Value} (X : K.In h) (Gn : h.Ns mainGlobals mg) (hb : ∀ r ∈ t.rows, BindsP r) (hc : (t.rows.all fun r => rowB t.G r) = true) : TopOk K mg t.G t.ds t.cs := by
  refine ⟨fun x hx => c.free X Gn (List.mem_append_right _ (List.mem_map.mpr ⟨x, hx, rfl⟩)), fun g x e => ?_, fun f d e => e, fun f d e => ?_⟩
  · obtain ⟨p, e1, e2⟩ := Option.map_eq_some_iff.mp (show (t.con.find? fun r => r.1 == g).map (·.2.1) = some x from e)
    obtain ⟨u, v, q1, q2, q3⟩ := Kd.says X Gn (c.tb (List.mem_of_find?_eq_some e1))
    refine ⟨p.2.2.d, u, v, ?_, ?_, q2, q3⟩
    · show (t.con.find? fun r => r.1 == g).map (·.2.2.d) = _
      rw [e1]; rfl
    · rw [← e2]; exact q1
  · obtain ⟨r, e1, e2⟩ := Option.map_eq_some_iff.mp (show (t.rows.find? fun r => r.f == f).map (·.d) = some d from e)
    have hr := List.mem_of_find?_eq_some e1
    obtain ⟨fd, D⟩ := t.def_ok c X Gn hr (hb r hr) (List.all_eq_true.mp hc r hr)
    rw [← e2]
    exact ⟨_, fd, D⟩
/-- the law's def keeps its promise, if the plain words say so -/
theorem Tb.law_ok (t : Tb) {P : Program} {w : World} {h : Heap} {mg : Str → Option Value} {fa : Addr} {n k f : Nat} {r : Row} (c : SaysT t.fa t.fn t.con K) (X : K.In h) (Gn : h.Ns mainGlobals mg) (hb : ∀ r ∈ t.rows, BindsP r) (hc : (t.rows.all fun r => rowB t.G r) = true)
    (hr : t.rows.find? (fun r => r.f == f) = some r) (hp : r.d.params = [("script" : Str)]) (hmg : mg r.d.name = some (.ref fa))
    (law : ∀ ns : List Int, ns.length ≤ 63 → ∃ S', run t.ds t.cs n k f [.scr ns] [] = some (.val (.bool true), S')) :
    ∃ (K : Frg) (fd : FuncData) (sp : Sp), K.In h ∧ (∀ (s : Shared) (u : Value), BindsTo s fd ⟨[u], []⟩ [("script", u)]) ∧
        (∀ (H : Hp) (a : Addr) (ns : List Int), ns.length ≤ 63 → Only H → SqL K H a (ns.map V.int) → sp [.ref a] H (fun v _ => v = .bl true) fun _ _ _ => False) ∧
        ∀ base : Heap, K.In base → base.Ns mainGlobals mg → FnOk P w K mg base CX0 k fa fd [("script" : Str)] sp := by
  have hm := List.mem_of_find?_eq_some hr
  obtain ⟨fd, D⟩ := t.def_ok c X Gn hm (hb r hm) (List.all_eq_true.mp hc r hm)
  have T := t.top_ok c X Gn hb hc
  have e := D.at_
  rw [hmg] at e
  cases e
  have hds : t.G.ds f = some r.d := by
    show (t.rows.find? fun r => r.f == f).map (·.d) = _
    rw [hr]; rfl
  refine ⟨K, fd, spD w K (run t.ds t.cs n k) f, X, fun s u => ?_, fun H a ns hl _ hS => ?_, fun base _ _ => ?_⟩
  · have := D.bnd s [u] (by rw [hp]; rfl)
    rw [hp] at this
    exact this
  · obtain ⟨S', e⟩ := law ns hl
    refine ⟨H, [], [], [.scr ns], .val (.bool true), S', Sub.refl H, ⟨List.nodup_nil, .nil⟩, .cons ⟨rfl, ?_⟩ .nil, e, rfl, fun F' M' H' v x c' rv => (dat_rp rv).bl_inv⟩
    unfold RSV
    exact ⟨a, rfl, by have : sizeLine = 16777216 := sizeLine_eq; omega, hS⟩
  · have := all_ok (P := P) (w := w) (base := base) (n := n) T k f r.d _ fd hds D
    rw [hp] at this
    exact this
end
end DL

/-! The data layer, part 22: what is looked up while one asks backwards. -/
namespace DL
open PySem L2
theorem WP_eq {α : Type} {m : Option (α × Store)} {a : α} {S : Store} (h : WP m fun o S1 => o = a ∧ S1 = S) : m = some (a, S) := by
  obtain ⟨o, S1, e, rfl, rfl⟩ := h
  exact e
section
variable {E : Ev} {sl : Slots} {S : Store} {elt : Ex} {tg : Tg} {cd : Exo} {own : List Nat} {ds : List D} {Q : List D → Store → Prop}
theorem lc_pure (g : D → Option D) (h : ∀ d ∈ ds, wpLc E sl elt tg cd own d S fun o S1 => o = g d ∧ S1 = S) : WP (lcGo (lcS E sl elt tg cd own) ds S) Q ↔ Q (ds.filterMap g) S :=
  lcGo_pure g fun d hd => WP_eq (w_lcS.mpr (h d hd))
theorem lc_map (g : D → D) (h : ∀ d ∈ ds, wpLc E sl elt tg cd own d S fun o S1 => o = some (g d) ∧ S1 = S) : WP (lcGo (lcS E sl elt tg cd own) ds S) Q ↔ Q (ds.map g) S := by
  rw [lc_pure (fun d => some (g d)) h, List.filterMap_eq_map']
theorem lc_inv (I : Nat → List D → Store → Prop) (h0 : I 0 [] S)
    (step : ∀ i d ys S, ds[i]? = some d → I i ys S → wpLc E sl elt tg cd own d S fun o S1 => I (i + 1) (match o with | some y => ys ++ [y] | none => ys) S1) (done : ∀ ys S, I ds.length ys S → Q ys S) : WP (lcGo (lcS E sl elt tg cd own) ds S) Q :=
  lcGo_inv I h0 (fun i d ys S e q => w_lcS.mpr (step i d ys S e q)) done
end
section
variable {a b : Bool} {S : Store} {Q : SV → Store → Prop} {R : RV → Store → Prop}
theorem qa : (if a = true then Q (.val (.bool b)) S else Q (.val (.bool false)) S) ↔ Q (.val (.bool (a && b))) S := by cases a <;> rfl
theorem qn : (if a = true then Q (.val (.bool false)) S else Q (.val (.bool b)) S) ↔ Q (.val (.bool (!a && b))) S := by cases a <;> rfl
theorem qo : (if a = true then Q (.val (.bool true)) S else Q (.val (.bool b)) S) ↔ Q (.val (.bool (a || b))) S := by cases a <;> rfl
end
theorem boolsD_map {α : Type} (f : α → Bool) : ∀ l : List α, boolsD (l.map fun x => .bool (f x)) = some (l.map f)
  | [] => rfl
  | x :: l => by simp [boolsD, boolsD_map f l]
theorem intsD_map {α : Type} (f : α → Int) : ∀ l : List α, intsD (l.map fun x => .int (f x)) = some (l.map f)
  | [] => rfl
  | x :: l => by simp [intsD, intsD_map f l]
section
variable {d d' : D} {i j : Int} {x y : Str} {t : Ty} {ds es : List D} {S : Store} {b b' : Bool} {r r' : RV}
theorem o_isi : isiS (.sv (.val d)) t = some (tyIs t d) := rfl
theorem o_add : bopS .add (.sv (.val (.int i))) (.sv (.val (.int j))) = some (.sv (.val (.int (i + j)))) := rfl
theorem o_adds : bopS .add (.sv (.val (.str x))) (.sv (.val (.str y))) = if x.length + y.length ≤ szL then some (.sv (.val (.str (x ++ y)))) else none := rfl
theorem o_addt : bopS .add (.sv (.val (.tuple ds))) (.sv (.val (.tuple es))) = if ds.length + es.length ≤ szL then some (.sv (.val (.tuple (ds ++ es)))) else none := rfl
theorem o_addb : bopS .add (.sv (.val (.bool b))) (.sv (.val (.int j))) = some (.sv (.val (.int ((if b then 1 else 0) + j)))) := rfl
theorem o_subb : bopS .sub (.sv (.val (.bool b))) (.sv (.val (.int j))) = some (.sv (.val (.int ((if b then 1 else 0) - j)))) := rfl
theorem o_sub : bopS .sub (.sv (.val (.int i))) (.sv (.val (.int j))) = some (.sv (.val (.int (i - j)))) := rfl
theorem o_mul : bopS .mul (.sv (.val (.int i))) (.sv (.val (.int j))) = if (-(2 ^ 64) < i ∧ i < 2 ^ 64) ∨ (-(2 ^ 64) < j ∧ j < 2 ^ 64) then some (.sv (.val (.int (i * j)))) else none := rfl
theorem o_div : bopS .fdiv (.sv (.val (.int i))) (.sv (.val (.int j))) = if 0 < j ∧ j < 1073741824 then some (.sv (.val (.int (i / j)))) else none := rfl
theorem o_mod : bopS .mod (.sv (.val (.int i))) (.sv (.val (.int j))) = if 0 < j then some (.sv (.val (.int (i % j)))) else none := rfl
theorem o_pow : bopS .pow (.sv (.val (.int i))) (.sv (.val (.int j))) = if 0 ≤ j ∧ j ≤ 1000000 ∧ i.natAbs < 2 ^ 64 then some (.sv (.val (.int (i ^ j.toNat)))) else none := rfl
theorem o_le : copS .le (.sv (.val (.int i))) (.sv (.val (.int j))) = some (decide (i ≤ j)) := rfl
theorem o_lt : copS .lt (.sv (.val (.int i))) (.sv (.val (.int j))) = some (decide (i < j)) := rfl
theorem o_gt : copS .gt (.sv (.val (.int i))) (.sv (.val (.int j))) = some (decide (j < i)) := rfl
theorem o_ge : copS .ge (.sv (.val (.int i))) (.sv (.val (.int j))) = some (decide (j ≤ i)) := rfl
theorem o_lts : copS .lt (.sv (.val (.str x))) (.sv (.val (.str y))) = some (ltS x y) := rfl
theorem o_les : copS .le (.sv (.val (.str x))) (.sv (.val (.str y))) = some (!ltS y x) := rfl
theorem o_isNon : copS .isN (.sv (.val d)) (.sv (.val .none)) = some (isNon (.sv (.val d))) := rfl
theorem o_notNon : copS .notN (.sv (.val d)) (.sv (.val .none)) = some (!isNon (.sv (.val d))) := rfl
theorem o_eqi : copS .eq (.sv (.val (.int i))) (.sv (.val (.int j))) = some (decide (i = j)) := rfl
theorem o_nei : copS .ne (.sv (.val (.int i))) (.sv (.val (.int j))) = some (!decide (i = j)) := rfl
theorem o_len : biS .len [.sv (.val (.tuple ds))] = some (.sv (.val (.int ds.length))) := rfl
theorem o_lenl : biS .len [.sv (.val (.list ds))] = some (.sv (.val (.int ds.length))) := rfl
theorem o_lenn : biS .len [.new (.lst ds)] = some (.sv (.val (.int ds.length))) := rfl
theorem o_lenb : biS .len [.bor (.lst ds)] = some (.sv (.val (.int ds.length))) := rfl
theorem o_lens : biS .len [.sv (.val (.str x))] = some (.sv (.val (.int x.length))) := rfl
theorem o_lensc {ns : List Int} : biS .len [.sv (.scr ns)] = some (.sv (.val (.int ns.length))) := by
  show some (RV.sv (.val (.int ((ns.map PyData.int).length : Nat)))) = _
  rw [List.length_map]
theorem o_int : biS .int [.sv (.val (.int i))] = some (.sv (.val (.int i))) := rfl
theorem o_tup : biS .tuple [.sv (.val (.list ds))] = some (.sv (.val (.tuple ds))) := rfl
theorem o_tupn : biS .tuple [.new (.lst ds)] = some (.sv (.val (.tuple ds))) := rfl
theorem o_tupt : biS .tuple [.sv (.val (.tuple ds))] = some (.sv (.val (.tuple ds))) := rfl
theorem o_lst : biS .list [.sv (.val (.tuple ds))] = some (.new (.lst ds)) := rfl
theorem o_lstl : biS .list [.sv (.val (.list ds))] = some (.new (.lst ds)) := rfl
theorem o_max : biS .max2 [.sv (.val (.int i)), .sv (.val (.int j))] = some (.sv (.val (.int (if j > i then j else i)))) := rfl
theorem o_min : biS .min2 [.sv (.val (.int i)), .sv (.val (.int j))] = some (.sv (.val (.int (if j < i then j else i)))) := rfl
theorem o_all {f : D → Bool} : biS .all [.new (.lst (ds.map fun x => .bool (f x)))] = some (.sv (.val (.bool (ds.all f)))) := by
  show (match boolsD (ds.map fun x => .bool (f x)) with | some bs => vB (bs.all id) | none => none) = _
  rw [boolsD_map]
  simp [List.all_map]
theorem o_subt : subS S (.sv (.val (.tuple ds))) (.sv (.val (.int i))) = (atI ds i).map fun d => .sv (.val d) := rfl
theorem o_subl : subS S (.sv (.val (.list ds))) (.sv (.val (.int i))) = (atI ds i).map fun d => .sv (.val d) := rfl
theorem o_subc {c : Nat} : subS S (.sv (.cell c)) (.sv (.val (.int i))) = match S[c]? with | some ds => (atI ds i).map fun d => .sv (.val d) | none => none := rfl
theorem o_slct {lo hi : Option Int} : slcS (.sv (.val (.tuple ds))) lo hi = some (.sv (.val (.tuple (cutD ds lo hi)))) := rfl
theorem o_slcl {lo hi : Option Int} : slcS (.sv (.val (.list ds))) lo hi = some (.new (.lst (cutD ds lo hi))) := rfl
theorem o_seqt : seqD (.val (.tuple ds)) = some ds := rfl
theorem o_seql : seqD (.val (.list ds)) = some ds := rfl
theorem o_seqs : seqD (.val (.str x)) = some (x.cps.toList.map strD) := rfl
theorem o_tupS {vs : List SV} (h : vals vs = some ds) (h2 : ds.length ≤ szL) : tupS vs = some (.sv (.val (.tuple ds))) := by
  unfold tupS; rw [h]; exact if_pos h2
theorem v_nil : vals [] = some [] := rfl
theorem v_cons {vs : List SV} : vals (.val d :: vs) = (vals vs).map (d :: ·) := rfl
theorem any_str {x : Str} : ∀ (ys : List Str), ((ys.map PyData.str).any fun z => dIs z (.str x)) = decide (x ∈ ys)
  | [] => rfl
  | y :: ys => by
    rw [List.map_cons, List.any_cons, any_str ys]
    have : dIs (.str y) (.str x) = decide (x = y) := by
      show (y == x) = _
      rw [Bool.eq_iff_iff, beq_iff_eq, decide_eq_true_eq]
      exact eq_comm
    rw [this, Bool.eq_iff_iff]
    simp
theorem o_instr {ys : List Str} : copS .isin (.sv (.val (.str x))) (.sv (.val (.tuple (ys.map .str)))) = some (decide (x ∈ ys)) := by
  show (if PyData.depth (.str x) ≤ 64 then some _ else none) = _
  rw [if_pos (by simp [PyData.depth]), any_str]
theorem o_instrl {ys : List Str} : copS .isin (.sv (.val (.str x))) (.sv (.val (.list (ys.map .str)))) = some (decide (x ∈ ys)) := by
  show (if PyData.depth (.str x) ≤ 64 then some _ else none) = _
  rw [if_pos (by simp [PyData.depth]), any_str]
theorem o_instrn {ys : List Str} : copS .isin (.sv (.val (.str x))) (.new (.lst (ys.map .str))) = some (decide (x ∈ ys)) := by
  show (if PyData.depth (.str x) ≤ 64 then some _ else none) = _
  rw [if_pos (by simp [PyData.depth]), any_str]
theorem o_eqs : copS .eq (.sv (.val (.str x))) (.sv (.val (.str y))) = some (decide (x = y)) := by
  show (if min (PyData.depth (.str x)) (PyData.depth (.str y)) ≤ 64 then some (x == y) else none) = _
  rw [if_pos (by simp [PyData.depth])]
  congr 1
theorem o_nes : copS .ne (.sv (.val (.str x))) (.sv (.val (.str y))) = some (!decide (x = y)) := by
  show (copS .eq (.sv (.val (.str x))) (.sv (.val (.str y)))).map _ = _
  rw [o_eqs]; rfl
theorem o_inc {c : Nat} : copS .isin (.sv (.val (strD c))) (.sv (.val (.str y))) = some (decide (c ∈ y.cps.toList)) := rfl
theorem o_notinc {c : Nat} : copS .notin (.sv (.val (strD c))) (.sv (.val (.str y))) = some (!decide (c ∈ y.cps.toList)) := rfl
end
end DL
namespace DL
open PySem L2
/-- a loop that folds -/
theorem forGo_fold {α : Type} {f : D → Slots → Store → Option Out} {S : Store} (mk : α → Slots) (g : α → D → α) : ∀ {ds : List D} {a : α}, (∀ d ∈ ds, ∀ a, op1 (f d (mk a) S) fun o => o = .nx (mk (g a d)) S) → forGo f ds (mk a) S = some (.nx (mk (ds.foldl g a)) S)
  | [], a, _ => rfl
  | d :: ds, a, h => by
    obtain ⟨o, e, rfl⟩ := h d List.mem_cons_self a
    unfold forGo
    rw [e]
    exact forGo_fold mk g fun d hd a => h d (List.mem_cons_of_mem _ hd) a
/-- a loop that may return early: no item does -/
theorem forGo_all {α : Type} {f : D → Slots → Store → Option Out} {S : Store} {v : SV} (p : D → Bool) (mk : Option D → Slots) : ∀ {ds : List D} {a : Option D}, (∀ d ∈ ds, ∀ a, op1 (f d (mk a) S) fun o => if p d = true then o = .nx (mk (some d)) S else o = .ret v S) →
    ∃ z, forGo f ds (mk a) S = some (if ds.all p = true then .nx (mk z) S else .ret v S)
  | [], a, _ => ⟨a, rfl⟩
  | d :: ds, a, h => by
    obtain ⟨o, e, q⟩ := h d List.mem_cons_self a
    rw [List.all_cons]
    cases hp : p d with
    | true =>
      rw [hp, if_pos rfl] at q
      subst q
      obtain ⟨z, e2⟩ := forGo_all (α := α) (v := v) p mk (a := some d) fun d hd a => h d (List.mem_cons_of_mem _ hd) a
      refine ⟨z, ?_⟩
      unfold forGo
      rw [e]
      exact e2
    | false =>
      rw [hp, if_neg Bool.false_ne_true] at q
      subst q
      refine ⟨none, ?_⟩
      unfold forGo
      rw [e]
      rfl
end DL
namespace DL
open PySem L2
theorem ty_int_none : tyIs .int .none = false := rfl
theorem ty_int_bool {b : Bool} : tyIs .int (.bool b) = true := rfl
theorem ty_int_int {i : Int} : tyIs .int (.int i) = true := rfl
theorem ty_int_str {x : Str} : tyIs .int (.str x) = false := rfl
theorem ty_int_list {ds : List PyData} : tyIs .int (.list ds) = false := rfl
theorem ty_int_tuple {ds : List PyData} : tyIs .int (.tuple ds) = false := rfl
theorem ty_int_dict {kv : List (PyData × PyData)} : tyIs .int (.dict kv) = false := rfl
theorem ty_str_none : tyIs .str .none = false := rfl
theorem ty_str_bool {b : Bool} : tyIs .str (.bool b) = false := rfl
theorem ty_str_int {i : Int} : tyIs .str (.int i) = false := rfl
theorem ty_str_str {x : Str} : tyIs .str (.str x) = true := rfl
theorem ty_str_list {ds : List PyData} : tyIs .str (.list ds) = false := rfl
theorem ty_str_tuple {ds : List PyData} : tyIs .str (.tuple ds) = false := rfl
theorem ty_str_dict {kv : List (PyData × PyData)} : tyIs .str (.dict kv) = false := rfl
theorem ty_tuple_none : tyIs .tuple .none = false := rfl
theorem ty_tuple_bool {b : Bool} : tyIs .tuple (.bool b) = false := rfl
theorem ty_tuple_int {i : Int} : tyIs .tuple (.int i) = false := rfl
theorem ty_tuple_str {x : Str} : tyIs .tuple (.str x) = false := rfl
theorem ty_tuple_list {ds : List PyData} : tyIs .tuple (.list ds) = false := rfl
theorem ty_tuple_tuple {ds : List PyData} : tyIs .tuple (.tuple ds) = true := rfl
theorem ty_tuple_dict {kv : List (PyData × PyData)} : tyIs .tuple (.dict kv) = false := rfl
theorem ty_list_none : tyIs .list .none = false := rfl
theorem ty_list_bool {b : Bool} : tyIs .list (.bool b) = false := rfl
theorem ty_list_int {i : Int} : tyIs .list (.int i) = false := rfl
theorem ty_list_str {x : Str} : tyIs .list (.str x) = false := rfl
theorem ty_list_list {ds : List PyData} : tyIs .list (.list ds) = true := rfl
theorem ty_list_tuple {ds : List PyData} : tyIs .list (.tuple ds) = false := rfl
theorem ty_list_dict {kv : List (PyData × PyData)} : tyIs .list (.dict kv) = false := rfl
theorem ty_bool_none : tyIs .bool .none = false := rfl
theorem ty_bool_bool {b : Bool} : tyIs .bool (.bool b) = true := rfl
theorem ty_bool_int {i : Int} : tyIs .bool (.int i) = false := rfl
theorem ty_bool_str {x : Str} : tyIs .bool (.str x) = false := rfl
theorem ty_bool_list {ds : List PyData} : tyIs .bool (.list ds) = false := rfl
theorem ty_bool_tuple {ds : List PyData} : tyIs .bool (.tuple ds) = false := rfl
theorem ty_bool_dict {kv : List (PyData × PyData)} : tyIs .bool (.dict kv) = false := rfl
theorem o_instr2 {x a b : Str} : copS .isin (.sv (.val (.str x))) (.sv (.val (.tuple [.str a, .str b]))) = some (decide (x ∈ [a, b])) := o_instr (ys := [a, b])
theorem o_notin2 {x a b : Str} : copS .notin (.sv (.val (.str x))) (.sv (.val (.tuple [.str a, .str b]))) = some (!decide (x ∈ [a, b])) := by
  show (copS .isin (.sv (.val (.str x))) (.sv (.val (.tuple ([a, b].map .str))))).map _ = _
  rw [o_instr]; rfl
theorem o_instr2l {x a b : Str} : copS .isin (.sv (.val (.str x))) (.new (.lst [.str a, .str b])) = some (decide (x ∈ [a, b])) := o_instrn (ys := [a, b])
theorem o_notin2l {x a b : Str} : copS .notin (.sv (.val (.str x))) (.new (.lst [.str a, .str b])) = some (!decide (x ∈ [a, b])) := by
  show (copS .isin (.sv (.val (.str x))) (.new (.lst ([a, b].map .str)))).map _ = _
  rw [o_instrn]; rfl
theorem t_2 {a b : D} : tupS [.val a, .val b] = some (.sv (.val (.tuple [a, b]))) := rfl
theorem t_1 {a : D} : tupS [.val a] = some (.sv (.val (.tuple [a]))) := rfl
theorem t_3 {a b c : D} : tupS [.val a, .val b, .val c] = some (.sv (.val (.tuple [a, b, c]))) := rfl
theorem t_4 {a b c d : D} : tupS [.val a, .val b, .val c, .val d] = some (.sv (.val (.tuple [a, b, c, d]))) := rfl
theorem t_0 : tupS [] = some (.sv (.val (.tuple []))) := rfl
theorem o_notinl {x : Str} {ys : List Str} : copS .notin (.sv (.val (.str x))) (.sv (.val (.list (ys.map .str)))) = some (!decide (x ∈ ys)) := by
  show (copS .isin (.sv (.val (.str x))) (.sv (.val (.list (ys.map .str))))).map _ = _
  rw [o_instrl]; rfl
theorem o_notinn {x : Str} {ys : List Str} : copS .notin (.sv (.val (.str x))) (.new (.lst (ys.map .str))) = some (!decide (x ∈ ys)) := by
  show (copS .isin (.sv (.val (.str x))) (.new (.lst (ys.map .str)))).map _ = _
  rw [o_instrn]; rfl
theorem sa_nil {sl : Slots} : setAll [] (List.map SV.val []) sl = some sl := rfl
theorem sa_cons {i : Nat} {is : List Nat} {d : D} {ds : List D} {sl : Slots} : setAll (i :: is) (List.map SV.val (d :: ds)) sl = setAll is (ds.map SV.val) (sl.set i (some (.val d))) := rfl
end DL
namespace DL
open PySem L2
theorem eqv_nil : ∀ ys : List D, PyData.eqvAll ys [] = ys.isEmpty
  | [] => rfl
  | _ :: _ => rfl
theorem o_eqnil {ys : List D} : copS .eq (.new (.lst ys)) (.new (.lst [])) = some ys.isEmpty := by
  show (if min (PyData.depth (.list ys)) (PyData.depth (.list [])) ≤ 64 then some (PyData.eqvAll ys []) else none) = _
  rw [if_pos (Nat.le_trans (Nat.min_le_right _ _) (by decide)), eqv_nil]
theorem o_nenil {ys : List D} : copS .ne (.new (.lst ys)) (.new (.lst [])) = some (!ys.isEmpty) := by
  show (copS .eq (.new (.lst ys)) (.new (.lst []))).map _ = _
  rw [o_eqnil]; rfl
theorem l_0 : lstS [] = some [] := rfl
theorem l_1 {a : D} : lstS [.val a] = some [a] := rfl
theorem l_2 {a b : D} : lstS [.val a, .val b] = some [a, b] := rfl
section
variable {E : Ev} {sl : Slots} {S : Store} {elt : Ex} {tg : Tg} {cd : Exo} {own : List Nat} {ds : List D} {Q : List D → Store → Prop}
theorem lc_filter (p : D → Bool) (h : ∀ d ∈ ds, wpLc E sl elt tg cd own d S fun o S1 => o = (if p d = true then none else some d) ∧ S1 = S) : WP (lcGo (lcS E sl elt tg cd own) ds S) Q ↔ Q (ds.filter fun d => !p d) S := by
  rw [lc_pure (fun d => if p d = true then none else some d) h]
  have : List.filterMap (fun d => if p d = true then none else some d) ds = ds.filter fun d => !p d := by
    clear h
    induction ds with
    | nil => rfl
    | cons d ds ih =>
      rw [List.filterMap_cons, List.filter_cons, ih]
      cases p d <;> rfl
  rw [this]
end
theorem none_left {p : D → Bool} : ∀ {ds : List D}, (ds.filter fun d => !p d).isEmpty = ds.all p
  | [] => rfl
  | d :: ds => by
    rw [List.filter_cons, List.all_cons]
    cases h : p d with
    | true => simp only [Bool.not_true, Bool.false_eq_true, if_false, Bool.true_and]; exact none_left
    | false => rfl
end DL
namespace DL
open PySem L2
def isTup (d : PyData) : Bool := match d with
  | .tuple _ => true
  | _ => false
def isStr (d : PyData) : Bool := match d with
  | .str _ => true
  | _ => false
theorem ty_tup {d : PyData} : isiS (.sv (.val d)) .tuple = some (isTup d) := by cases d <;> rfl
theorem ty_str {d : PyData} : isiS (.sv (.val d)) .str = some (isStr d) := by cases d <;> rfl
theorem o_isi_i {d : PyData} : isiS (.sv (.val d)) .int = some (tyIs .int d) := rfl
theorem o_isi_b {d : PyData} : isiS (.sv (.val d)) .bool = some (tyIs .bool d) := rfl
theorem o_isi_l {d : PyData} : isiS (.sv (.val d)) .list = some (tyIs .list d) := rfl
theorem asgT_nm {i : Nat} {v : SV} {sl : Slots} : asgT (.nm i) v sl = some (sl.set i (some v)) := rfl
theorem asgT_tp {is : List Nat} {ds : List D} {sl : Slots} : asgT (.tp is) (.val (.tuple ds)) sl = setAll is (ds.map .val) sl := rfl
theorem asgT_tq {i : Nat} {is : List Nat} {d : D} {ds : List D} {sl : Slots} : asgT (.tq i is) (.val (.tuple [d, .tuple ds])) sl = setAll is (ds.map .val) (sl.set i (some (.val d))) := rfl
theorem isTup_none : isTup .none = false := rfl
theorem isStr_none : isStr .none = false := rfl
theorem isTup_bool {b : Bool} : isTup (.bool b) = false := rfl
theorem isStr_bool {b : Bool} : isStr (.bool b) = false := rfl
theorem isTup_int {i : Int} : isTup (.int i) = false := rfl
theorem isStr_int {i : Int} : isStr (.int i) = false := rfl
theorem isTup_str {x : Str} : isTup (.str x) = false := rfl
theorem isStr_str {x : Str} : isStr (.str x) = true := rfl
theorem isTup_list {ds : List PyData} : isTup (.list ds) = false := rfl
theorem isStr_list {ds : List PyData} : isStr (.list ds) = false := rfl
theorem isTup_tuple {ds : List PyData} : isTup (.tuple ds) = true := rfl
theorem isStr_tuple {ds : List PyData} : isStr (.tuple ds) = false := rfl
theorem isTup_dict {kv : List (PyData × PyData)} : isTup (.dict kv) = false := rfl
theorem isStr_dict {kv : List (PyData × PyData)} : isStr (.dict kv) = false := rfl
end DL
namespace DL
open PySem L2
theorem l_3 {a0 a1 a2 : D} : lstS [.val a0, .val a1, .val a2] = some [a0, a1, a2] := rfl
theorem l_4 {a0 a1 a2 a3 : D} : lstS [.val a0, .val a1, .val a2, .val a3] = some [a0, a1, a2, a3] := rfl
theorem l_5 {a0 a1 a2 a3 a4 : D} : lstS [.val a0, .val a1, .val a2, .val a3, .val a4] = some [a0, a1, a2, a3, a4] := rfl
theorem l_6 {a0 a1 a2 a3 a4 a5 : D} : lstS [.val a0, .val a1, .val a2, .val a3, .val a4, .val a5] = some [a0, a1, a2, a3, a4, a5] := rfl
theorem l_7 {a0 a1 a2 a3 a4 a5 a6 : D} : lstS [.val a0, .val a1, .val a2, .val a3, .val a4, .val a5, .val a6] = some [a0, a1, a2, a3, a4, a5, a6] := rfl
theorem l_8 {a0 a1 a2 a3 a4 a5 a6 a7 : D} : lstS [.val a0, .val a1, .val a2, .val a3, .val a4, .val a5, .val a6, .val a7] = some [a0, a1, a2, a3, a4, a5, a6, a7] := rfl
theorem l_9 {a0 a1 a2 a3 a4 a5 a6 a7 a8 : D} : lstS [.val a0, .val a1, .val a2, .val a3, .val a4, .val a5, .val a6, .val a7, .val a8] = some [a0, a1, a2, a3, a4, a5, a6, a7, a8] := rfl
theorem l_10 {a0 a1 a2 a3 a4 a5 a6 a7 a8 a9 : D} : lstS [.val a0, .val a1, .val a2, .val a3, .val a4, .val a5, .val a6, .val a7, .val a8, .val a9] = some [a0, a1, a2, a3, a4, a5, a6, a7, a8, a9] := rfl
theorem l_11 {a0 a1 a2 a3 a4 a5 a6 a7 a8 a9 a10 : D} : lstS [.val a0, .val a1, .val a2, .val a3, .val a4, .val a5, .val a6, .val a7, .val a8, .val a9, .val a10] = some [a0, a1, a2, a3, a4, a5, a6, a7, a8, a9, a10] := rfl
theorem l_12 {a0 a1 a2 a3 a4 a5 a6 a7 a8 a9 a10 a11 : D} : lstS [.val a0, .val a1, .val a2, .val a3, .val a4, .val a5, .val a6, .val a7, .val a8, .val a9, .val a10, .val a11] = some [a0, a1, a2, a3, a4, a5, a6, a7, a8, a9, a10, a11] := rfl
theorem l_13 {a0 a1 a2 a3 a4 a5 a6 a7 a8 a9 a10 a11 a12 : D} : lstS [.val a0, .val a1, .val a2, .val a3, .val a4, .val a5, .val a6, .val a7, .val a8, .val a9, .val a10, .val a11, .val a12] = some [a0, a1, a2, a3, a4, a5, a6, a7, a8, a9, a10, a11, a12] := rfl
theorem l_14 {a0 a1 a2 a3 a4 a5 a6 a7 a8 a9 a10 a11 a12 a13 : D} : lstS [.val a0, .val a1, .val a2, .val a3, .val a4, .val a5, .val a6, .val a7, .val a8, .val a9, .val a10, .val a11, .val a12, .val a13] = some [a0, a1, a2, a3, a4, a5, a6, a7, a8, a9, a10, a11, a12, a13] := rfl
theorem l_15 {a0 a1 a2 a3 a4 a5 a6 a7 a8 a9 a10 a11 a12 a13 a14 : D} : lstS [.val a0, .val a1, .val a2, .val a3, .val a4, .val a5, .val a6, .val a7, .val a8, .val a9, .val a10, .val a11, .val a12, .val a13, .val a14] = some [a0, a1, a2, a3, a4, a5, a6, a7, a8, a9, a10, a11, a12, a13, a14] := rfl
theorem l_16 {a0 a1 a2 a3 a4 a5 a6 a7 a8 a9 a10 a11 a12 a13 a14 a15 : D} : lstS [.val a0, .val a1, .val a2, .val a3, .val a4, .val a5, .val a6, .val a7, .val a8, .val a9, .val a10, .val a11, .val a12, .val a13, .val a14, .val a15] = some [a0, a1, a2, a3, a4, a5, a6, a7, a8, a9, a10, a11, a12, a13, a14, a15] := rfl
theorem l_17 {a0 a1 a2 a3 a4 a5 a6 a7 a8 a9 a10 a11 a12 a13 a14 a15 a16 : D} : lstS [.val a0, .val a1, .val a2, .val a3, .val a4, .val a5, .val a6, .val a7, .val a8, .val a9, .val a10, .val a11, .val a12, .val a13, .val a14, .val a15, .val a16] = some [a0, a1, a2, a3, a4, a5, a6, a7, a8, a9, a10, a11, a12, a13, a14, a15, a16] := rfl
theorem l_18 {a0 a1 a2 a3 a4 a5 a6 a7 a8 a9 a10 a11 a12 a13 a14 a15 a16 a17 : D} : lstS [.val a0, .val a1, .val a2, .val a3, .val a4, .val a5, .val a6, .val a7, .val a8, .val a9, .val a10, .val a11, .val a12, .val a13, .val a14, .val a15, .val a16, .val a17] = some [a0, a1, a2, a3, a4, a5, a6, a7, a8, a9, a10, a11, a12, a13, a14, a15, a16, a17] := rfl
theorem l_19 {a0 a1 a2 a3 a4 a5 a6 a7 a8 a9 a10 a11 a12 a13 a14 a15 a16 a17 a18 : D} : lstS [.val a0, .val a1, .val a2, .val a3, .val a4, .val a5, .val a6, .val a7, .val a8, .val a9, .val a10, .val a11, .val a12, .val a13, .val a14, .val a15, .val a16, .val a17, .val a18] = some [a0, a1, a2, a3, a4, a5, a6, a7, a8, a9, a10, a11, a12, a13, a14, a15, a16, a17, a18] := rfl
theorem l_20 {a0 a1 a2 a3 a4 a5 a6 a7 a8 a9 a10 a11 a12 a13 a14 a15 a16 a17 a18 a19 : D} : lstS [.val a0, .val a1, .val a2, .val a3, .val a4, .val a5, .val a6, .val a7, .val a8, .val a9, .val a10, .val a11, .val a12, .val a13, .val a14, .val a15, .val a16, .val a17, .val a18, .val a19] = some [a0, a1, a2, a3, a4, a5, a6, a7, a8, a9, a10, a11, a12, a13, a14, a15, a16, a17, a18, a19] := rfl
theorem o_eqb {a b : Bool} : copS .eq (.sv (.val (.bool a))) (.sv (.val (.bool b))) = some (a == b) := rfl
theorem o_neb {a b : Bool} : copS .ne (.sv (.val (.bool a))) (.sv (.val (.bool b))) = some (!(a == b)) := rfl
theorem o_subsc {S : Store} {ns : List Int} {i : Int} : subS S (.sv (.scr ns)) (.sv (.val (.int i))) = (atI (ns.map PyData.int) i).map fun d => .sv (.val d) := rfl
theorem o_addnn {ds es : List D} : bopS .add (.new (.lst ds)) (.new (.lst es)) = if ds.length + es.length ≤ szL then some (.new (.lst (ds ++ es))) else none := rfl
theorem o_addln {ds es : List D} : bopS .add (.sv (.val (.list ds))) (.new (.lst es)) = if ds.length + es.length ≤ szL then some (.new (.lst (ds ++ es))) else none := rfl
theorem o_addnl {ds es : List D} : bopS .add (.new (.lst ds)) (.sv (.val (.list es))) = if ds.length + es.length ≤ szL then some (.new (.lst (ds ++ es))) else none := rfl
theorem o_addll {ds es : List D} : bopS .add (.sv (.val (.list ds))) (.sv (.val (.list es))) = if ds.length + es.length ≤ szL then some (.new (.lst (ds ++ es))) else none := rfl
theorem o_pnf {r r' : RV} : True := trivial
theorem asI_v {d : D} {P : Int → Prop} {i : Int} (h : d = .int i) : asI (.sv (.val d)) P ↔ P i := by rw [h]; exact asI_i
end DL

/-! The data layer, part 23: order of strings, sorting. -/
namespace DL
open PySem L2
theorem ltS_def (x y : Str) : ltS x y = decide (x.cps.toList < y.cps.toList) := rfl
theorem ltS_irr (x : Str) : ltS x x = false := by rw [ltS_def]; exact decide_eq_false (List.lt_irrefl _)
theorem ltS_trans {x y z : Str} (h : ltS x y = true) (h2 : ltS y z = true) : ltS x z = true := by
  rw [ltS_def] at *
  exact decide_eq_true (List.lt_trans (of_decide_eq_true h) (of_decide_eq_true h2))
theorem str_ext {x y : Str} (h : x.cps.toList = y.cps.toList) : x = y := by
  cases x; cases y
  simp only [Str.mk.injEq]
  exact Array.toList_inj.mp h
theorem ltS_tri {x y : Str} (h : ltS x y = false) (h2 : ltS y x = false) : x = y := by
  rw [ltS_def] at *
  have h := of_decide_eq_false h
  have h2 := of_decide_eq_false h2
  exact str_ext (List.le_antisymm (List.not_lt.mp h2) (List.not_lt.mp h))
theorem ltS_asym {x y : Str} (h : ltS x y = true) : ltS y x = false := by
  cases e : ltS y x with
  | false => rfl
  | true => have := ltS_trans h e; rw [ltS_irr] at this; cases this
theorem ltS_neg {x y z : Str} (h : ltS x z = true) : ltS x y = true ∨ ltS y z = true := by
  cases e : ltS x y with
  | true => exact .inl rfl
  | false =>
    right
    cases e2 : ltS y x with
    | true => exact ltS_trans e2 h
    | false => rw [ltS_tri e e2] at h; exact h
def leS (x y : Str) : Bool := !ltS y x
def sortS (xs : List Str) : List Str := xs.mergeSort leS
theorem toks_str (x y : Str) : PySem.W.dataLe false id (.str x) (.str y) = leS x y := by
  have h : PyProof.Rows.lexLt PyProof.Rows.itemOrd (PySem.W.keyToks (.str y)) (PySem.W.keyToks (.str x)) = ltS y x := by
    rw [PySem.W.keyToks, PySem.W.keyToks, PyProof.Rows.lex_cons]
    show (decide (y.cps.toList < x.cps.toList) || (!decide (x.cps.toList < y.cps.toList) && false)) = ltS y x
    rw [Bool.and_false, Bool.or_false]
    rfl
  show (!(PyProof.Rows.lexLt PyProof.Rows.itemOrd (PySem.W.keyToks (.str y)) (PySem.W.keyToks (.str x)))) = !ltS y x
  rw [h]
theorem sortOk_strs (xs : List Str) : sortOk (xs.map .str) = true := by
  unfold sortOk
  have h2 : ((xs.map PyData.str).all fun d => match d with | .none => false | .tuple _ => false | _ => true) = true := by
    rw [List.all_map]; simp
  rw [Bool.and_eq_true, Bool.or_eq_true]
  refine ⟨?_, .inr h2⟩
  rw [List.all_map, List.all_eq_true]
  intro x _
  show (decide (PyData.depth (.str x) ≤ 64) && (xs.map PyData.str).all fun b => PySem.W.alike (.str x) b) = true
  rw [Bool.and_eq_true, List.all_map]
  refine ⟨by simp [PyData.depth], ?_⟩
  rw [List.all_eq_true]
  intro y _
  show PySem.W.alike (.str x) (.str y) = true
  simp [PySem.W.alike]
theorem sortD_strs (xs : List Str) : sortD (xs.map .str) = (sortS xs).map .str := by
  unfold sortD sortS
  exact (List.map_mergeSort fun a _ b _ => (toks_str a b).symm).symm
theorem sortS_perm (xs : List Str) : (sortS xs).Perm xs := List.mergeSort_perm xs leS
theorem leS_trans {x y z : Str} (h : leS x y = true) (h2 : leS y z = true) : leS x z = true := by
  unfold leS at *
  rw [Bool.not_eq_true'] at *
  cases e : ltS z x with
  | false => rfl
  | true =>
    rcases ltS_neg (y := y) e with q | q
    · rw [q] at h2; cases h2
    · rw [q] at h; cases h
theorem leS_total (x y : Str) : (leS x y || leS y x) = true := by
  unfold leS
  cases e : ltS x y with
  | false => simp
  | true => rw [ltS_asym e]; rfl
theorem sortS_pw (xs : List Str) : (sortS xs).Pairwise fun a b => leS a b = true := List.pairwise_mergeSort (le := leS) (fun _ _ _ h h2 => leS_trans h h2) leS_total xs
theorem sortS_lt {xs : List Str} (h : xs.Nodup) : (sortS xs).Pairwise fun a b => ltS a b = true := by
  have h1 := sortS_pw xs
  have h2 : (sortS xs).Nodup := (sortS_perm xs).nodup_iff.mpr h
  refine List.Pairwise.imp₂ ?_ h1 h2
  intro a b h3 h4
  cases e : ltS a b with
  | true => rfl
  | false =>
    unfold leS at h3
    rw [Bool.not_eq_true'] at h3
    exact absurd (ltS_tri e h3) h4
end DL
namespace DL
open PySem L2
theorem eqv_nilt : ∀ ys : List D, PyData.eqvAll ys [] = ys.isEmpty
  | [] => rfl
  | _ :: _ => rfl
theorem o_eqtnil {ys : List D} : copS .eq (.sv (.val (.tuple ys))) (.sv (.val (.tuple []))) = some ys.isEmpty := by
  show (if min (PyData.depth (.tuple ys)) (PyData.depth (.tuple [])) ≤ 64 then some (PyData.eqvAll ys []) else none) = _
  rw [if_pos (Nat.le_trans (Nat.min_le_right _ _) (by decide)), eqv_nil]
theorem o_netnil {ys : List D} : copS .ne (.sv (.val (.tuple ys))) (.sv (.val (.tuple []))) = some (!ys.isEmpty) := by
  show (copS .eq (.sv (.val (.tuple ys))) (.sv (.val (.tuple [])))).map _ = _
  rw [o_eqtnil]; rfl
theorem o_eqlnil {ys : List D} : copS .eq (.sv (.val (.list ys))) (.new (.lst [])) = some ys.isEmpty := by
  show (if min (PyData.depth (.list ys)) (PyData.depth (.list [])) ≤ 64 then some (PyData.eqvAll ys []) else none) = _
  rw [if_pos (Nat.le_trans (Nat.min_le_right _ _) (by decide)), eqv_nil]
theorem o_nelnil {ys : List D} : copS .ne (.sv (.val (.list ys))) (.new (.lst [])) = some (!ys.isEmpty) := by
  show (copS .eq (.sv (.val (.list ys))) (.new (.lst []))).map _ = _
  rw [o_eqlnil]; rfl
/-- an item of a list: a tuple -/
theorem o_intl {xs ys : List D} (h : PyData.depth (.tuple xs) ≤ 64) : copS .isin (.sv (.val (.tuple xs))) (.sv (.val (.list ys))) = some (ys.any fun z => dIs z (.tuple xs)) := by
  show (if PyData.depth (.tuple xs) ≤ 64 then some _ else none) = _
  rw [if_pos h]
theorem o_notintl {xs ys : List D} (h : PyData.depth (.tuple xs) ≤ 64) : copS .notin (.sv (.val (.tuple xs))) (.sv (.val (.list ys))) = some (!ys.any fun z => dIs z (.tuple xs)) := by
  show (copS .isin (.sv (.val (.tuple xs))) (.sv (.val (.list ys)))).map _ = _
  rw [o_intl h]; rfl
end DL

namespace DL.Wk03
open PySem L2 DL
def d0 : Df := ⟨"is_integer", ["value", "low", "high"], ["value", "low", "high"], (.cons (.ret (.and (.isi (.var 0) .int) (.and (.not (.isi (.var 0) .bool)) (.chn .le .le (.var 1) (.var 0) (.var 2))))) .nil)⟩
def d1 : Df := ⟨"is_name", ["value"], ["value", "sign"], (.cons (.ife (.or (.not (.isi (.var 0) .str)) (.or (.not (.chn .le .le (.int 1) (.bi .len (.cons (.var 0) .nil)) (.int 8))) (.cop .isin (.var 0) (.glob 0)))) (.cons (.ret (.bl false)) .nil) .nil) (.cons (.ret (.bi .all (.cons (.lc (.cop .isin (.var 1) (.glob 1)) (.nm 1) (.seq (.var 0)) .no [1]) .nil))) .nil))⟩
def d2 : Df := ⟨"is_row", ["value", "low", "high"], ["value", "low", "high"], (.cons (.ret (.and (.isi (.var 0) .tuple) (.chn .le .le (.var 1) (.bi .len (.cons (.var 0) .nil)) (.var 2)))) .nil)⟩
def d3 : Df := ⟨"ascends", ["names"], ["names", "one", "other"], (.cons (.ret (.bi .all (.cons (.lc (.cop .lt (.var 1) (.var 2)) (.tp [1, 2]) (.zip (.var 0) (.slc (.var 0) (.yes (.int 1)) .no)) .no [1, 2]) .nil))) .nil)⟩
def d4 : Df := ⟨"is_entry", ["value"], ["value"], (.cons (.ret (.and (.call 2 (.cons (.var 0) (.cons (.int 2) (.cons (.int 2) .nil)))) (.and (.call 1 (.cons (.sub (.var 0) (.int 0)) .nil)) (.call 0 (.cons (.sub (.var 0) (.int 1)) (.cons (.int 0) (.cons (.int 3) .nil))))))) .nil)⟩
def d5 : Df := ⟨"is_record", ["value"], ["value", "entry"], (.cons (.ife (.or (.not (.call 2 (.cons (.var 0) (.cons (.int 0) (.cons (.int 8) .nil))))) (.not (.bi .all (.cons (.lc (.call 4 (.cons (.var 1) .nil)) (.nm 1) (.seq (.var 0)) .no [1]) .nil)))) (.cons (.ret (.bl false)) .nil) .nil) (.cons (.ret (.call 3 (.cons (.lc (.sub (.var 1) (.int 0)) (.nm 1) (.seq (.var 0)) .no [1]) .nil))) .nil))⟩
def d6 : Df := ⟨"is_field", ["value"], ["value"], (.cons (.ife (.or (.not (.call 2 (.cons (.var 0) (.cons (.int 4) (.cons (.int 4) .nil))))) (.or (.not (.call 1 (.cons (.sub (.var 0) (.int 0)) .nil))) (.not (.call 0 (.cons (.sub (.var 0) (.int 1)) (.cons (.int 2) (.cons (.int 4) .nil))))))) (.cons (.ret (.bl false)) .nil) .nil) (.cons (.ife (.not (.call 0 (.cons (.sub (.var 0) (.int 2)) (.cons (.int 0) (.cons (.bop .sub (.sub (.var 0) (.int 1)) (.int 1)) .nil))))) (.cons (.ret (.bl false)) .nil) .nil) (.cons (.ret (.or (.and (.isi (.sub (.var 0) (.int 3)) .str) (.cop .eq (.sub (.var 0) (.int 3)) (.glob 2))) (.call 0 (.cons (.sub (.var 0) (.int 3)) (.cons (.int 0) (.cons (.bop .sub (.sub (.var 0) (.int 1)) (.int 1)) .nil)))))) .nil)))⟩
def d7 : Df := ⟨"are_fields", ["value"], ["value", "field", "product"], (.cons (.ife (.or (.not (.call 2 (.cons (.var 0) (.cons (.int 1) (.cons (.int 3) .nil))))) (.not (.bi .all (.cons (.lc (.call 6 (.cons (.var 1) .nil)) (.nm 1) (.seq (.var 0)) .no [1]) .nil)))) (.cons (.ret (.bl false)) .nil) .nil) (.cons (.asg (.nm 2) (.int 1)) (.cons (.forr (.nm 1) (.seq (.var 0)) (.cons (.asg (.nm 2) (.bop .mul (.var 2) (.sub (.var 1) (.int 1)))) .nil)) (.cons (.ret (.and (.call 3 (.cons (.lc (.sub (.var 1) (.int 0)) (.nm 1) (.seq (.var 0)) .no [1]) .nil)) (.cop .le (.var 2) (.glob 3)))) .nil))))⟩
def d8 : Df := ⟨"is_manner", ["value"], ["value"], (.cons (.ret (.and (.isi (.var 0) .str) (.cop .isin (.var 0) (.tup (.cons (.glob 4) (.cons (.glob 5) .nil)))))) .nil)⟩
def d9 : Df := ⟨"is_operand", ["names", "value"], ["names", "value"], (.cons (.ret (.ite (.isi (.var 1) .str) (.cop .isin (.var 1) (.var 0)) (.call 0 (.cons (.var 1) (.cons (.int 0) (.cons (.int 3) .nil)))))) .nil)⟩
def d10 : Df := ⟨"is_term", ["names", "value"], ["names", "value"], (.cons (.ife (.not (.isi (.var 1) .tuple)) (.cons (.ret (.call 9 (.cons (.var 0) (.cons (.var 1) .nil)))) .nil) .nil) (.cons (.ife (.or (.cop .ne (.bi .len (.cons (.var 1) .nil)) (.int 3)) (.or (.not (.isi (.sub (.var 1) (.int 0)) .str)) (.cop .ne (.sub (.var 1) (.int 0)) (.glob 6)))) (.cons (.ret (.bl false)) .nil) .nil) (.cons (.ret (.and (.call 9 (.cons (.var 0) (.cons (.sub (.var 1) (.int 1)) .nil))) (.call 9 (.cons (.var 0) (.cons (.sub (.var 1) (.int 2)) .nil))))) .nil)))⟩
def d11 : Df := ⟨"is_condition", ["names", "value"], ["names", "value"], (.cons (.ife (.or (.not (.call 2 (.cons (.var 1) (.cons (.int 3) (.cons (.int 3) .nil))))) (.or (.not (.isi (.sub (.var 1) (.int 1)) .str)) (.cop .notin (.sub (.var 1) (.int 1)) (.tup (.cons (.str "=") (.cons (.str "<") .nil)))))) (.cons (.ret (.bl false)) .nil) .nil) (.cons (.ret (.and (.call 9 (.cons (.var 0) (.cons (.sub (.var 1) (.int 0)) .nil))) (.call 9 (.cons (.var 0) (.cons (.sub (.var 1) (.int 2)) .nil))))) .nil))⟩
def d12 : Df := ⟨"is_set", ["names", "value"], ["names", "value"], (.cons (.ife (.or (.not (.call 2 (.cons (.var 1) (.cons (.int 2) (.cons (.int 2) .nil))))) (.or (.not (.isi (.sub (.var 1) (.int 0)) .str)) (.or (.cop .eq (.sub (.var 1) (.int 0)) (.glob 7)) (.cop .notin (.sub (.var 1) (.int 0)) (.var 0))))) (.cons (.ret (.bl false)) .nil) .nil) (.cons (.ret (.call 10 (.cons (.var 0) (.cons (.sub (.var 1) (.int 1)) .nil)))) .nil))⟩
def d13 : Df := ⟨"is_rule", ["names", "value"], ["names", "value", "one", "pair"], (.cons (.ife (.or (.not (.call 2 (.cons (.var 1) (.cons (.int 3) (.cons (.int 3) .nil))))) (.or (.not (.call 2 (.cons (.sub (.var 1) (.int 0)) (.cons (.int 0) (.cons (.int 2) .nil))))) (.not (.call 2 (.cons (.sub (.var 1) (.int 1)) (.cons (.int 0) (.cons (.int 3) .nil))))))) (.cons (.ret (.bl false)) .nil) .nil) (.cons (.ife (.or (.not (.bi .all (.cons (.lc (.call 11 (.cons (.var 0) (.cons (.var 2) .nil))) (.nm 2) (.seq (.sub (.var 1) (.int 0))) .no [2]) .nil))) (.not (.bi .all (.cons (.lc (.call 12 (.cons (.var 0) (.cons (.var 2) .nil))) (.nm 2) (.seq (.sub (.var 1) (.int 1))) .no [2]) .nil)))) (.cons (.ret (.bl false)) .nil) .nil) (.cons (.ret (.and (.call 3 (.cons (.lc (.sub (.var 3) (.int 0)) (.nm 3) (.seq (.sub (.var 1) (.int 1))) .no [3]) .nil)) (.or (.cop .isN (.sub (.var 1) (.int 2)) .non) (.call 10 (.cons (.var 0) (.cons (.sub (.var 1) (.int 2)) .nil)))))) .nil)))⟩
def d14 : Df := ⟨"names_of", ["fields"], ["fields", "field"], (.cons (.ret (.lc (.sub (.var 1) (.int 0)) (.nm 1) (.seq (.var 0)) .no [1])) .nil)⟩
def d15 : Df := ⟨"is_ask", ["fields", "value"], ["fields", "value", "rule"], (.cons (.ife (.or (.not (.call 2 (.cons (.var 1) (.cons (.int 3) (.cons (.int 3) .nil))))) (.or (.not (.call 1 (.cons (.sub (.var 1) (.int 0)) .nil))) (.not (.call 0 (.cons (.sub (.var 1) (.int 1)) (.cons (.int 1) (.cons (.int 3) .nil))))))) (.cons (.ret (.bl false)) .nil) .nil) (.cons (.ret (.and (.call 2 (.cons (.sub (.var 1) (.int 2)) (.cons (.int 0) (.cons (.int 4) .nil)))) (.bi .all (.cons (.lc (.call 13 (.cons (.bop .add (.call 14 (.cons (.var 0) .nil)) (.lst (.cons (.glob 7) .nil))) (.cons (.var 2) .nil))) (.nm 2) (.seq (.sub (.var 1) (.int 2))) .no [2]) .nil)))) .nil))⟩
def d16 : Df := ⟨"is_sweep", ["fields", "value"], ["fields", "value", "rule"], (.cons (.ife (.or (.not (.call 2 (.cons (.var 1) (.cons (.int 0) (.cons (.int 3) .nil))))) (.not (.bi .all (.cons (.lc (.call 13 (.cons (.call 14 (.cons (.var 0) .nil)) (.cons (.var 2) .nil))) (.nm 2) (.seq (.var 1)) .no [2]) .nil)))) (.cons (.ret (.bl false)) .nil) .nil) (.cons (.ret (.bi .all (.cons (.lc (.cop .isN (.sub (.var 2) (.int 2)) .non) (.nm 2) (.seq (.var 1)) .no [2]) .nil))) .nil))⟩
def d17 : Df := ⟨"is_edition", ["value"], ["value", "ask"], (.cons (.ife (.or (.not (.call 2 (.cons (.var 0) (.cons (.int 4) (.cons (.int 4) .nil))))) (.or (.not (.call 7 (.cons (.sub (.var 0) (.int 0)) .nil))) (.not (.call 8 (.cons (.sub (.var 0) (.int 1)) .nil))))) (.cons (.ret (.bl false)) .nil) .nil) (.cons (.ife (.or (.not (.call 2 (.cons (.sub (.var 0) (.int 2)) (.cons (.int 1) (.cons (.int 4) .nil))))) (.not (.bi .all (.cons (.lc (.call 15 (.cons (.sub (.var 0) (.int 0)) (.cons (.var 1) .nil))) (.nm 1) (.seq (.sub (.var 0) (.int 2))) .no [1]) .nil)))) (.cons (.ret (.bl false)) .nil) .nil) (.cons (.ret (.and (.call 3 (.cons (.lc (.sub (.var 1) (.int 0)) (.nm 1) (.seq (.sub (.var 0) (.int 2))) .no [1]) .nil)) (.call 16 (.cons (.sub (.var 0) (.int 0)) (.cons (.sub (.var 0) (.int 3)) .nil))))) .nil)))⟩
def d60 : Df := ⟨"need_record", ["value"], ["value"], (.cons (.ife (.not (.call 5 (.cons (.var 0) .nil))) (.cons .never .nil) .nil) .nil)⟩
def d61 : Df := ⟨"need_edition", ["value"], ["value"], (.cons (.ife (.not (.call 17 (.cons (.var 0) .nil))) (.cons .never .nil) .nil) .nil)⟩
def d62 : Df := ⟨"read_value", ["field", "stored"], ["field", "stored", "name", "size", "default", "strange"], (.cons (.asg (.tp [2, 3, 4, 5]) (.var 0)) (.cons (.ife (.cop .isN (.var 1) .non) (.cons (.ret (.var 4)) .nil) .nil) (.cons (.ife (.cop .lt (.var 1) (.var 3)) (.cons (.ret (.var 1)) .nil) .nil) (.cons (.ret (.ite (.cop .eq (.var 5) (.glob 2)) .non (.var 5))) .nil))))⟩
def d63 : Df := ⟨"read", ["edition", "record"], ["edition", "record", "stored", "found", "field"], (.cons (.asg (.nm 2) (.bi .dict (.cons (.var 1) .nil))) (.cons (.frz 2) (.cons (.asg (.nm 3) (.bi .tuple (.cons (.lc (.call 62 (.cons (.var 4) (.cons (.get2 (.var 2) (.sub (.var 4) (.int 0)) .non) .nil))) (.nm 4) (.seq (.sub (.var 0) (.int 0))) .no [4]) .nil))) (.cons (.ret (.ite (.cop .isin .non (.var 3)) .non (.var 3))) .nil))))⟩
def d64 : Df := ⟨"empty_view", ["edition"], ["edition", "field"], (.cons (.ret (.bi .tuple (.cons (.lc (.sub (.var 1) (.int 2)) (.nm 1) (.seq (.sub (.var 0) (.int 0))) .no [1]) .nil))) .nil)⟩
def d65 : Df := ⟨"view_of", ["edition", "record"], ["edition", "record"], (.cons (.expr (.call 61 (.cons (.var 0) .nil))) (.cons (.expr (.call 60 (.cons (.var 1) .nil))) (.cons (.ret (.call 63 (.cons (.var 0) (.cons (.var 1) .nil)))) .nil)))⟩
def d66 : Df := ⟨"first_view", ["edition"], ["edition"], (.cons (.expr (.call 61 (.cons (.var 0) .nil))) (.cons (.ret (.call 64 (.cons (.var 0) .nil))) .nil))⟩
def d18 : Df := ⟨"_law_bag", ["script", "k"], ["script", "k", "cell", "first", "seed"], (.cons (.asg (.nm 2) (.int 0)) (.cons (.ife (.cop .lt (.var 1) (.bi .len (.cons (.var 0) .nil))) (.cons (.asg (.nm 2) (.bop .mod (.bi .int (.cons (.sub (.var 0) (.var 1)) .nil)) (.bop .pow (.int 10) (.int 60)))) .nil) .nil) (.cons (.asg (.nm 3) (.bop .add (.bop .mul (.bop .mod (.bi .int (.cons (.var 2) .nil)) (.int 2147483629)) (.int 16807)) (.bop .mul (.bop .mul (.int 40009) (.var 1)) (.var 1)))) (.cons (.frz 3) (.cons (.asg (.nm 4) (.bop .add (.int 1) (.bop .mod (.bi .int (.cons (.bop .add (.bop .add (.var 3) (.bop .mul (.int 7919) (.var 1))) (.int 1009)) .nil)) (.int 2147483645)))) (.cons (.frz 4) (.cons (.ife (.cop .lt (.var 2) (.bop .pow (.int 10) (.int 18))) (.cons (.ret (.cel (.cons (.int 0) (.cons (.var 4) .nil)))) .nil) .nil) (.cons (.ret (.cel (.cons (.var 2) (.cons (.var 4) .nil)))) .nil))))))))⟩
def d19 : Df := ⟨"_law_take", ["bag", "count"], ["bag", "count", "found", "mixed"], (.cons (.ife (.cop .gt (.sub (.var 0) (.int 0)) (.int 0)) (.cons (.asg (.nm 2) (.bop .mod (.bi .int (.cons (.sub (.var 0) (.int 0)) .nil)) (.var 1))) (.cons (.put 0 (.int 0) (.bop .fdiv (.bi .int (.cons (.sub (.var 0) (.int 0)) .nil)) (.var 1))) (.cons (.ret (.var 2)) .nil))) .nil) (.cons (.put 0 (.int 1) (.bop .mod (.bi .int (.cons (.bop .mul (.sub (.var 0) (.int 1)) (.int 48271)) .nil)) (.int 2147483647))) (.cons (.asg (.nm 3) (.bop .mul (.bop .fdiv (.bi .int (.cons (.sub (.var 0) (.int 1)) .nil)) (.int 13)) (.bop .add (.bop .mod (.bi .int (.cons (.sub (.var 0) (.int 1)) .nil)) (.int 32749)) (.int 17)))) (.cons (.frz 3) (.cons (.ret (.bop .mod (.bi .int (.cons (.bop .fdiv (.bop .mod (.bi .int (.cons (.var 3) .nil)) (.int 2147483629)) (.int 32)) .nil)) (.var 1))) .nil)))))⟩
def d20 : Df := ⟨"_law_of", ["bag", "some"], ["bag", "some"], (.cons (.ret (.sub (.var 1) (.call 19 (.cons (.var 0) (.cons (.bi .len (.cons (.var 1) .nil)) .nil))))) .nil)⟩
def d21 : Df := ⟨"_law_pool", ["bag"], ["bag", "pool", "at"], (.cons (.asg (.nm 1) (.call 20 (.cons (.var 0) (.cons (.lst (.cons (.lst (.cons (.str "n") (.cons (.str "m") (.cons (.str "tag") (.cons (.str "kind") .nil))))) (.cons (.lst (.cons (.str "a") (.cons (.str "aa") (.cons (.str "ab") (.cons (.str "zzzzzzzz") .nil))))) (.cons (.lst (.cons (.str "level") (.cons (.str "mark") (.cons (.str "owner") (.cons (.str "state") .nil))))) .nil)))) .nil)))) (.cons (.asg (.nm 2) (.call 19 (.cons (.var 0) (.cons (.int 4) .nil)))) (.cons (.ret (.bop .add (.slc (.var 1) (.yes (.var 2)) .no) (.slc (.var 1) .no (.yes (.var 2))))) .nil)))⟩
def d22 : Df := ⟨"_law_asknames", ["bag"], ["bag"], (.cons (.ret (.call 20 (.cons (.var 0) (.cons (.lst (.cons (.lst (.cons (.str "flip") (.cons (.str "mark") (.cons (.str "show") (.cons (.str "tagged") .nil))))) (.cons (.lst (.cons (.str "a") (.cons (.str "b") (.cons (.str "c") (.cons (.str "d") .nil))))) (.cons (.lst (.cons (.str "n") (.cons (.str "put") (.cons (.str "puts") (.cons (.str "tag") .nil))))) .nil)))) .nil)))) .nil)⟩
def d23 : Df := ⟨"_law_operand", ["bag", "names"], ["bag", "names"], (.cons (.ret (.call 20 (.cons (.var 0) (.cons (.bop .add (.bop .add (.lst (.cons (.int 0) (.cons (.int 1) (.cons (.call 19 (.cons (.var 0) (.cons (.int 4) .nil))) .nil)))) (.bi .list (.cons (.var 1) .nil))) (.bi .list (.cons (.var 1) .nil))) .nil)))) .nil)⟩
def d24 : Df := ⟨"_law_term", ["bag", "names"], ["bag", "names"], (.cons (.ife (.cop .eq (.call 19 (.cons (.var 0) (.cons (.int 4) .nil))) (.int 0)) (.cons (.ret (.tup (.cons (.str "sum") (.cons (.call 23 (.cons (.var 0) (.cons (.var 1) .nil))) (.cons (.call 23 (.cons (.var 0) (.cons (.var 1) .nil))) .nil))))) .nil) .nil) (.cons (.ret (.call 23 (.cons (.var 0) (.cons (.var 1) .nil)))) .nil))⟩
def d25 : Df := ⟨"_law_rule", ["bag", "names", "own", "tells"], ["bag", "names", "own", "tells", "when", "turn", "one", "other", "sets", "name", "answer"], (.cons (.asg (.nm 4) (.tup .nil)) (.cons (.forr (.nm 5) (.rng (.call 20 (.cons (.var 0) (.cons (.lst (.cons (.int 0) (.cons (.int 0) (.cons (.int 1) (.cons (.int 1) (.cons (.int 2) .nil)))))) .nil)))) (.cons (.par [6, 7] (.cons (.call 23 (.cons (.var 0) (.cons (.var 1) .nil))) (.cons (.call 23 (.cons (.var 0) (.cons (.var 1) .nil))) .nil))) (.cons (.asg (.nm 4) (.bop .add (.var 4) (.tup (.cons (.tup (.cons (.var 6) (.cons (.call 20 (.cons (.var 0) (.cons (.lst (.cons (.str "=") (.cons (.str "=") (.cons (.str "<") .nil)))) .nil))) (.cons (.var 7) .nil)))) .nil)))) (.cons (.frz 4) .nil)))) (.cons (.asg (.nm 8) (.bi .tuple (.cons (.lc (.tup (.cons (.var 9) (.cons (.call 24 (.cons (.var 0) (.cons (.var 1) .nil))) .nil))) (.nm 9) (.seq (.bi .sorted (.cons (.var 2) .nil))) (.yes (.cop .eq (.call 19 (.cons (.var 0) (.cons (.int 3) .nil))) (.int 0))) [9]) .nil))) (.cons (.asg (.nm 10) (.ite (.and (.var 3) (.cop .eq (.call 19 (.cons (.var 0) (.cons (.int 2) .nil))) (.int 0))) (.call 24 (.cons (.var 0) (.cons (.var 1) .nil))) .non)) (.cons (.ret (.tup (.cons (.var 4) (.cons (.var 8) (.cons (.var 10) .nil))))) .nil)))))⟩
def d26 : Df := ⟨"_law_fields", ["bag", "names"], ["bag", "names", "found", "product", "at", "room", "further", "size", "default", "strange"], (.cons (.par [2, 3] (.cons (.tup .nil) (.cons (.int 1) .nil))) (.cons (.forr (.nm 4) (.rng (.bi .len (.cons (.var 1) .nil))) (.cons (.asg (.nm 5) (.int 24)) (.cons (.forr (.nm 6) (.seq (.slc (.var 1) (.yes (.bop .add (.var 4) (.int 1))) .no)) (.cons (.asg (.nm 5) (.bop .fdiv (.var 5) (.int 2))) .nil)) (.cons (.asg (.nm 7) (.call 20 (.cons (.var 0) (.cons (.lst (.cons (.int 2) (.cons (.int 2) (.cons (.int 3) (.cons (.int 3) (.cons (.int 4) .nil)))))) .nil)))) (.cons (.asg (.nm 7) (.ite (.cop .le (.bop .mul (.var 3) (.var 7)) (.var 5)) (.var 7) (.int 2))) (.cons (.asg (.nm 3) (.bop .mul (.var 3) (.var 7))) (.cons (.asg (.nm 8) (.call 20 (.cons (.var 0) (.cons (.lst (.cons (.int 0) (.cons (.int 0) (.cons (.int 0) (.cons (.call 19 (.cons (.var 0) (.cons (.var 7) .nil))) .nil))))) .nil)))) (.cons (.asg (.nm 9) (.call 20 (.cons (.var 0) (.cons (.lst (.cons (.str "refuse") (.cons (.str "refuse") (.cons (.call 19 (.cons (.var 0) (.cons (.var 7) .nil))) .nil)))) .nil)))) (.cons (.asg (.nm 2) (.bop .add (.var 2) (.tup (.cons (.tup (.cons (.sub (.bi .sorted (.cons (.var 1) .nil)) (.var 4)) (.cons (.var 7) (.cons (.var 8) (.cons (.var 9) .nil))))) .nil)))) (.cons (.frz 2) .nil)))))))))) (.cons (.ret (.var 2)) .nil)))⟩
def d27 : Df := ⟨"_law_wild", ["bag", "names", "asks"], ["bag", "names", "asks", "fields", "found", "name", "own", "field", "rules", "turn", "sweep"], (.cons (.par [3, 4] (.cons (.call 26 (.cons (.var 0) (.cons (.var 1) .nil))) (.cons (.tup .nil) .nil))) (.cons (.forr (.nm 5) (.seq (.bi .sorted (.cons (.var 2) .nil))) (.cons (.asg (.nm 6) (.lc (.sub (.var 7) (.int 0)) (.nm 7) (.seq (.var 3)) .no [7])) (.cons (.frz 6) (.cons (.asg (.nm 8) (.bi .tuple (.cons (.lc (.call 25 (.cons (.var 0) (.cons (.bop .add (.var 6) (.lst (.cons (.str "arg") .nil))) (.cons (.var 6) (.cons (.bl true) .nil))))) (.nm 9) (.rng (.bop .add (.int 1) (.call 19 (.cons (.var 0) (.cons (.int 3) .nil))))) .no [9]) .nil))) (.cons (.asg (.nm 4) (.bop .add (.var 4) (.tup (.cons (.tup (.cons (.var 5) (.cons (.call 20 (.cons (.var 0) (.cons (.lst (.cons (.int 1) (.cons (.int 1) (.cons (.int 1) (.cons (.int 2) (.cons (.int 3) .nil)))))) .nil))) (.cons (.var 8) .nil)))) .nil)))) (.cons (.frz 4) .nil)))))) (.cons (.asg (.nm 10) (.tup .nil)) (.cons (.ife (.cop .eq (.call 19 (.cons (.var 0) (.cons (.int 3) .nil))) (.int 0)) (.cons (.asg (.nm 10) (.tup (.cons (.call 25 (.cons (.var 0) (.cons (.lc (.sub (.var 7) (.int 0)) (.nm 7) (.seq (.var 3)) .no [7]) (.cons (.lc (.sub (.var 7) (.int 0)) (.nm 7) (.seq (.var 3)) .no [7]) (.cons (.bl false) .nil))))) .nil))) .nil) .nil) (.cons (.ret (.tup (.cons (.var 3) (.cons (.call 20 (.cons (.var 0) (.cons (.lst (.cons (.str "whole") (.cons (.str "part") (.cons (.str "part") .nil)))) .nil))) (.cons (.var 4) (.cons (.var 10) .nil)))))) .nil)))))⟩
def d28 : Df := ⟨"_law_tame", ["bag", "names", "asks"], ["bag", "names", "asks", "fields", "rows", "one", "other", "up", "turn", "found", "name", "row", "sweep"], (.cons (.par [3, 4] (.cons (.call 26 (.cons (.var 0) (.cons (.slc (.var 1) .no (.yes (.int 2))) .nil))) (.cons (.lst .nil) .nil))) (.cons (.par [5, 6] (.cons (.sub (.sub (.var 3) (.int 0)) (.int 0)) (.cons (.sub (.sub (.var 3) (.neg (.int 1))) (.int 0)) .nil))) (.cons (.asg (.nm 7) (.tup (.cons (.tup .nil) (.cons (.tup (.cons (.tup (.cons (.var 5) (.cons (.tup (.cons (.str "sum") (.cons (.var 5) (.cons (.int 1) .nil)))) .nil))) .nil)) (.cons .non .nil))))) (.cons (.asg (.nm 8) (.tup (.cons (.tup (.cons (.tup (.cons (.var 5) (.cons (.str "=") (.cons (.int 0) .nil)))) .nil)) (.cons (.tup (.cons (.tup (.cons (.var 5) (.cons (.int 1) .nil))) .nil)) (.cons .non .nil))))) (.cons (.app 4 (.tup (.cons (.int 1) (.cons (.call 20 (.cons (.var 0) (.cons (.lst (.cons (.tup (.cons (.var 7) .nil)) (.cons (.tup (.cons (.var 8) (.cons (.tup (.cons (.tup .nil) (.cons (.tup (.cons (.tup (.cons (.var 5) (.cons (.int 0) .nil))) .nil)) (.cons .non .nil)))) .nil))) .nil))) .nil))) .nil)))) (.cons (.app 4 (.tup (.cons (.call 20 (.cons (.var 0) (.cons (.lst (.cons (.int 2) (.cons (.int 3) .nil))) .nil))) (.cons (.tup (.cons (.tup (.cons (.tup .nil) (.cons (.tup (.cons (.tup (.cons (.var 6) (.cons (.str "arg") .nil))) .nil)) (.cons .non .nil)))) .nil)) .nil)))) (.cons (.app 4 (.tup (.cons (.int 1) (.cons (.tup (.cons (.tup (.cons (.tup .nil) (.cons (.tup .nil) (.cons (.var 5) .nil)))) .nil)) .nil)))) (.cons (.app 4 (.tup (.cons (.int 1) (.cons (.tup (.cons (.tup (.cons (.tup .nil) (.cons (.tup .nil) (.cons (.var 6) .nil)))) .nil)) .nil)))) (.cons (.frz 4) (.cons (.asg (.nm 9) (.bi .tuple (.cons (.lc (.bop .add (.tup (.cons (.var 10) .nil)) (.var 11)) (.tp [10, 11]) (.zip (.var 2) (.var 4)) .no [10, 11]) .nil))) (.cons (.asg (.nm 12) (.tup .nil)) (.cons (.ife (.cop .eq (.call 19 (.cons (.var 0) (.cons (.int 3) .nil))) (.int 0)) (.cons (.asg (.nm 12) (.tup (.cons (.tup (.cons (.tup .nil) (.cons (.tup (.cons (.tup (.cons (.var 6) (.cons (.var 6) .nil))) .nil)) (.cons .non .nil)))) .nil))) .nil) .nil) (.cons (.ret (.tup (.cons (.var 3) (.cons (.call 20 (.cons (.var 0) (.cons (.lst (.cons (.str "whole") (.cons (.str "part") (.cons (.str "part") .nil)))) .nil))) (.cons (.var 9) (.cons (.var 12) .nil)))))) .nil)))))))))))))⟩
def d29 : Df := ⟨"_law_words_of", ["rules"], ["rules", "found", "when", "sets", "answer", "part", "term", "parts", "one"], (.cons (.asg (.nm 1) (.lst .nil)) (.cons (.frz 1) (.cons (.forr (.tp [2, 3, 4]) (.seq (.var 0)) (.cons (.forr (.nm 5) (.seq (.bop .add (.bop .add (.bi .list (.cons (.var 2) .nil)) (.bi .list (.cons (.var 3) .nil))) (.lst (.cons (.tup (.cons (.var 4) .nil)) .nil)))) (.cons (.forr (.nm 6) (.seq (.var 5)) (.cons (.asg (.nm 7) (.ite (.isi (.var 6) .tuple) (.var 6) (.tup (.cons (.var 6) .nil)))) (.cons (.asg (.nm 1) (.bop .add (.var 1) (.lc (.var 8) (.nm 8) (.seq (.var 7)) (.yes (.isi (.var 8) .str)) [8]))) (.cons (.frz 1) .nil)))) .nil)) .nil)) (.cons (.ret (.var 1)) .nil))))⟩
def d30 : Df := ⟨"_law_elder", ["bag", "newest"], ["bag", "newest", "keep", "field", "fields", "name", "size", "default", "strange", "fewer", "gone", "asks", "choices", "rules", "word", "sweep"], (.cons (.asg (.nm 2) (.lc (.var 3) (.nm 3) (.seq (.sub (.var 1) (.int 0))) (.yes (.cop .gt (.call 19 (.cons (.var 0) (.cons (.int 4) .nil))) (.int 0))) [3])) (.cons (.frz 2) (.cons (.asg (.nm 2) (.ite (.cop .ne (.var 2) (.lst .nil)) (.var 2) (.lst (.cons (.sub (.sub (.var 1) (.int 0)) (.int 0)) .nil)))) (.cons (.asg (.nm 4) (.tup .nil)) (.cons (.forr (.tp [5, 6, 7, 8]) (.seq (.var 2)) (.cons (.asg (.nm 9) (.call 20 (.cons (.var 0) (.cons (.lst (.cons (.var 6) (.cons (.var 6) (.cons (.var 6) (.cons (.int 2) .nil))))) .nil)))) (.cons (.asg (.nm 7) (.ite (.cop .lt (.var 7) (.var 9)) (.var 7) (.int 0))) (.cons (.asg (.nm 8) (.call 20 (.cons (.var 0) (.cons (.lst (.cons (.str "refuse") (.cons (.str "refuse") (.cons (.call 19 (.cons (.var 0) (.cons (.var 9) .nil))) .nil)))) .nil)))) (.cons (.asg (.nm 4) (.bop .add (.var 4) (.tup (.cons (.tup (.cons (.var 5) (.cons (.var 9) (.cons (.var 7) (.cons (.var 8) .nil))))) .nil)))) (.cons (.frz 4) .nil)))))) (.cons (.asg (.nm 10) (.lc (.sub (.var 3) (.int 0)) (.nm 3) (.seq (.sub (.var 1) (.int 0))) (.yes (.cop .notin (.var 3) (.var 2))) [3])) (.cons (.frz 10) (.cons (.asg (.nm 11) (.tup .nil)) (.cons (.forr (.tp [5, 12, 13]) (.seq (.sub (.var 1) (.int 2))) (.cons (.ife (.and (.cop .eq (.lc (.var 14) (.nm 14) (.seq (.call 29 (.cons (.var 13) .nil))) (.yes (.cop .isin (.var 14) (.var 10))) [14]) (.lst .nil)) (.cop .gt (.call 19 (.cons (.var 0) (.cons (.int 5) .nil))) (.int 0))) (.cons (.asg (.nm 11) (.bop .add (.var 11) (.tup (.cons (.tup (.cons (.var 5) (.cons (.call 20 (.cons (.var 0) (.cons (.lst (.cons (.var 12) (.cons (.var 12) (.cons (.int 1) .nil)))) .nil))) (.cons (.var 13) .nil)))) .nil)))) (.cons (.frz 11) .nil)) .nil) .nil)) (.cons (.ife (.cop .eq (.var 11) (.tup .nil)) (.cons (.asg (.nm 11) (.tup (.cons (.tup (.cons (.sub (.sub (.sub (.var 1) (.int 2)) (.int 0)) (.int 0)) (.cons (.int 1) (.cons (.tup .nil) .nil)))) .nil))) .nil) .nil) (.cons (.asg (.nm 15) (.ite (.cop .eq (.lc (.var 14) (.nm 14) (.seq (.call 29 (.cons (.sub (.var 1) (.int 3)) .nil))) (.yes (.cop .isin (.var 14) (.var 10))) [14]) (.lst .nil)) (.sub (.var 1) (.int 3)) (.tup .nil))) (.cons (.ret (.tup (.cons (.var 4) (.cons (.call 20 (.cons (.var 0) (.cons (.lst (.cons (.str "whole") (.cons (.str "part") .nil))) .nil))) (.cons (.var 11) (.cons (.call 20 (.cons (.var 0) (.cons (.lst (.cons (.var 15) (.cons (.tup .nil) .nil))) .nil))) .nil)))))) .nil))))))))))))⟩
def d31 : Df := ⟨"_law_family", ["bag", "many", "fieldnames"], ["bag", "many", "fieldnames", "names", "asks", "newest", "turn"], (.cons (.par [3, 4] (.cons (.slc (.call 21 (.cons (.var 0) .nil)) .no (.yes (.var 2))) (.cons (.call 22 (.cons (.var 0) .nil)) .nil))) (.cons (.frz 3) (.cons (.ife (.cop .eq (.call 19 (.cons (.var 0) (.cons (.int 3) .nil))) (.int 0)) (.cons (.asg (.nm 5) (.call 27 (.cons (.var 0) (.cons (.var 3) (.cons (.slc (.var 4) .no (.yes (.bop .add (.int 2) (.call 20 (.cons (.var 0) (.cons (.lst (.cons (.int 0) (.cons (.int 0) (.cons (.int 1) (.cons (.int 2) .nil))))) .nil)))))) .nil))))) .nil) (.cons (.asg (.nm 5) (.call 28 (.cons (.var 0) (.cons (.var 3) (.cons (.var 4) .nil))))) .nil)) (.cons (.ret (.bop .add (.bi .tuple (.cons (.lc (.call 30 (.cons (.var 0) (.cons (.var 5) .nil))) (.nm 6) (.rng (.bop .sub (.var 1) (.int 1))) .no [6]) .nil)) (.tup (.cons (.var 5) .nil)))) .nil))))⟩
def d67 : Df := ⟨"_law_read", ["edition", "record"], ["edition", "record", "stored", "found", "name", "size", "default", "strange", "value"], (.cons (.par [2, 3] (.cons (.bi .dict (.cons (.var 1) .nil)) (.cons (.tup .nil) .nil))) (.cons (.frz 2) (.cons (.forr (.tp [4, 5, 6, 7]) (.seq (.sub (.var 0) (.int 0))) (.cons (.asg (.nm 8) (.get2 (.var 2) (.var 4) (.var 6))) (.cons (.ife (.and (.cop .ge (.var 8) (.var 5)) (.cop .eq (.var 7) (.str "refuse"))) (.cons (.ret .non) .nil) .nil) (.cons (.asg (.nm 3) (.bop .add (.var 3) (.tup (.cons (.ite (.cop .lt (.var 8) (.var 5)) (.var 8) (.var 7)) .nil)))) (.cons (.frz 3) .nil))))) (.cons (.ret (.var 3)) .nil))))⟩
def d68 : Df := ⟨"law", ["script"], ["script", "k", "bag", "names", "edition", "own", "field", "turn", "some", "record", "name"], (.cons (.forr (.nm 1) (.rng (.bi .max2 (.cons (.int 4) (.cons (.bi .min2 (.cons (.int 10) (.cons (.bop .add (.bi .len (.cons (.var 0) .nil)) (.int 3)) .nil))) .nil)))) (.cons (.asg (.nm 2) (.call 18 (.cons (.var 0) (.cons (.var 1) .nil)))) (.cons (.asg (.nm 3) (.call 21 (.cons (.var 2) .nil))) (.cons (.asg (.nm 4) (.call 20 (.cons (.var 2) (.cons (.call 31 (.cons (.var 2) (.cons (.int 3) (.cons (.bop .add (.int 1) (.call 19 (.cons (.var 2) (.cons (.int 3) .nil)))) .nil)))) .nil)))) (.cons (.asg (.nm 5) (.lc (.sub (.var 6) (.int 0)) (.nm 6) (.seq (.sub (.var 4) (.int 0))) .no [6])) (.cons (.frz 5) (.cons (.ife (.cop .ne (.call 66 (.cons (.var 4) .nil)) (.bi .tuple (.cons (.lc (.sub (.var 6) (.int 2)) (.nm 6) (.seq (.sub (.var 4) (.int 0))) .no [6]) .nil))) (.cons (.ret (.bl false)) .nil) .nil) (.cons (.forr (.nm 7) (.rng (.int 10)) (.cons (.asg (.nm 8) (.sset (.bop .add (.bop .add (.var 5) (.var 3)) (.lst (.cons (.str "other") .nil))))) (.cons (.frz 8) (.cons (.asg (.nm 9) (.bi .tuple (.cons (.lc (.tup (.cons (.var 10) (.cons (.call 19 (.cons (.var 2) (.cons (.int 4) .nil))) .nil))) (.nm 10) (.seq (.var 8)) (.yes (.cop .gt (.call 19 (.cons (.var 2) (.cons (.int 3) .nil))) (.int 0))) [10]) .nil))) (.cons (.ife (.cop .ne (.call 65 (.cons (.var 4) (.cons (.var 9) .nil))) (.call 67 (.cons (.var 4) (.cons (.var 9) .nil)))) (.cons (.ret (.bl false)) .nil) .nil) .nil))))) (.cons (.ife (.cop .ne (.call 65 (.cons (.var 4) (.cons (.tup .nil) .nil))) (.call 66 (.cons (.var 4) .nil))) (.cons (.ret (.bl false)) .nil) .nil) .nil))))))))) (.cons (.asg (.nm 4) (.tup (.cons (.tup (.cons (.tup (.cons (.str "n") (.cons (.int 2) (.cons (.int 1) (.cons (.str "refuse") .nil))))) (.cons (.tup (.cons (.str "tag") (.cons (.int 3) (.cons (.int 0) (.cons (.int 2) .nil))))) .nil))) (.cons (.str "part") (.cons (.tup (.cons (.tup (.cons (.str "show") (.cons (.int 1) (.cons (.tup .nil) .nil)))) .nil)) (.cons (.tup .nil) .nil)))))) (.cons (.asg (.nm 8) (.lst (.cons (.call 65 (.cons (.var 4) (.cons (.tup .nil) .nil))) (.cons (.call 65 (.cons (.var 4) (.cons (.tup (.cons (.tup (.cons (.str "n") (.cons (.int 0) .nil))) (.cons (.tup (.cons (.str "tag") (.cons (.int 3) .nil))) .nil))) .nil))) (.cons (.call 65 (.cons (.var 4) (.cons (.tup (.cons (.tup (.cons (.str "n") (.cons (.int 2) .nil))) .nil)) .nil))) .nil))))) (.cons (.frz 8) (.cons (.ret (.cop .eq (.var 8) (.lst (.cons (.tup (.cons (.int 1) (.cons (.int 0) .nil))) (.cons (.tup (.cons (.int 0) (.cons (.int 2) .nil))) (.cons .non .nil)))))) .nil)))))⟩
def dsT : List (Nat × Df) := [(0, d0), (1, d1), (2, d2), (3, d3), (4, d4), (5, d5), (6, d6), (7, d7), (8, d8), (9, d9), (10, d10), (11, d11), (12, d12), (13, d13), (14, d14), (15, d15), (16, d16), (17, d17), (60, d60), (61, d61), (62, d62), (63, d63), (64, d64), (65, d65), (66, d66), (18, d18), (19, d19), (20, d20), (21, d21), (22, d22), (23, d23), (24, d24), (25, d25), (26, d26), (27, d27), (28, d28), (29, d29), (30, d30), (31, d31), (67, d67), (68, d68)]
def csT : List (Nat × PyData) := [(1, (.str "abcdefghijklmnopqrstuvwxyz")), (0, (.tuple [.str "arg", .str "ask", .str "field", .str "manner", .str "refuse", .str "rule", .str "set", .str "sum", .str "sweep", .str "tell", .str "when"])), (2, (.str "refuse")), (7, (.str "arg")), (6, (.str "sum")), (4, (.str "whole")), (5, (.str "part")), (3, (.int 24))]
def ds : Nat → Option Df := look dsT
def cs : Nat → Option PyData := look csT
abbrev C (k : Nat) : CallF := DL.run ds cs 4096 k
abbrev Ek (k : Nat) : Ev := ⟨C k, cs, 4096⟩
theorem e0 : ds 0 = some d0 := rfl
theorem e1 : ds 1 = some d1 := rfl
theorem e2 : ds 2 = some d2 := rfl
theorem e3 : ds 3 = some d3 := rfl
theorem e4 : ds 4 = some d4 := rfl
theorem e5 : ds 5 = some d5 := rfl
theorem e6 : ds 6 = some d6 := rfl
theorem e7 : ds 7 = some d7 := rfl
theorem e8 : ds 8 = some d8 := rfl
theorem e9 : ds 9 = some d9 := rfl
theorem e10 : ds 10 = some d10 := rfl
theorem e11 : ds 11 = some d11 := rfl
theorem e12 : ds 12 = some d12 := rfl
theorem e13 : ds 13 = some d13 := rfl
theorem e14 : ds 14 = some d14 := rfl
theorem e15 : ds 15 = some d15 := rfl
theorem e16 : ds 16 = some d16 := rfl
theorem e17 : ds 17 = some d17 := rfl
theorem e60 : ds 60 = some d60 := rfl
theorem e61 : ds 61 = some d61 := rfl
theorem e62 : ds 62 = some d62 := rfl
theorem e63 : ds 63 = some d63 := rfl
theorem e64 : ds 64 = some d64 := rfl
theorem e65 : ds 65 = some d65 := rfl
theorem e66 : ds 66 = some d66 := rfl
theorem e18 : ds 18 = some d18 := rfl
theorem e19 : ds 19 = some d19 := rfl
theorem e20 : ds 20 = some d20 := rfl
theorem e21 : ds 21 = some d21 := rfl
theorem e22 : ds 22 = some d22 := rfl
theorem e23 : ds 23 = some d23 := rfl
theorem e24 : ds 24 = some d24 := rfl
theorem e25 : ds 25 = some d25 := rfl
theorem e26 : ds 26 = some d26 := rfl
theorem e27 : ds 27 = some d27 := rfl
theorem e28 : ds 28 = some d28 := rfl
theorem e29 : ds 29 = some d29 := rfl
theorem e30 : ds 30 = some d30 := rfl
theorem e31 : ds 31 = some d31 := rfl
theorem e67 : ds 67 = some d67 := rfl
theorem e68 : ds 68 = some d68 := rfl
theorem c1 : cs 1 = some (.str "abcdefghijklmnopqrstuvwxyz") := rfl
theorem c0 : cs 0 = some (.tuple [.str "arg", .str "ask", .str "field", .str "manner", .str "refuse", .str "rule", .str "set", .str "sum", .str "sweep", .str "tell", .str "when"]) := rfl
theorem c2 : cs 2 = some (.str "refuse") := rfl
theorem c7 : cs 7 = some (.str "arg") := rfl
theorem c6 : cs 6 = some (.str "sum") := rfl
theorem c4 : cs 4 = some (.str "whole") := rfl
theorem c5 : cs 5 = some (.str "part") := rfl
theorem c3 : cs 3 = some (.int 24) := rfl
theorem u0 {k : Nat} {a0 a1 a2 : SV} {S : Store} {Q : SV → Store → Prop} : WP (C (k + 1) 0 [a0, a1, a2] S) Q ↔ op1 (exSs (Ek k) [some a0, some a1, some a2] S (.cons (.ret (.and (.isi (.var 0) .int) (.and (.not (.isi (.var 0) .bool)) (.chn .le .le (.var 1) (.var 0) (.var 2))))) .nil)) (retO Q) := run_eq e0 rfl
theorem u1 {k : Nat} {a0 : SV} {S : Store} {Q : SV → Store → Prop} : WP (C (k + 1) 1 [a0] S) Q ↔ op1 (exSs (Ek k) [some a0, none] S (.cons (.ife (.or (.not (.isi (.var 0) .str)) (.or (.not (.chn .le .le (.int 1) (.bi .len (.cons (.var 0) .nil)) (.int 8))) (.cop .isin (.var 0) (.glob 0)))) (.cons (.ret (.bl false)) .nil) .nil) (.cons (.ret (.bi .all (.cons (.lc (.cop .isin (.var 1) (.glob 1)) (.nm 1) (.seq (.var 0)) .no [1]) .nil))) .nil))) (retO Q) := run_eq e1 rfl
theorem u2 {k : Nat} {a0 a1 a2 : SV} {S : Store} {Q : SV → Store → Prop} : WP (C (k + 1) 2 [a0, a1, a2] S) Q ↔ op1 (exSs (Ek k) [some a0, some a1, some a2] S (.cons (.ret (.and (.isi (.var 0) .tuple) (.chn .le .le (.var 1) (.bi .len (.cons (.var 0) .nil)) (.var 2)))) .nil)) (retO Q) := run_eq e2 rfl
theorem u3 {k : Nat} {a0 : SV} {S : Store} {Q : SV → Store → Prop} : WP (C (k + 1) 3 [a0] S) Q ↔ op1 (exSs (Ek k) [some a0, none, none] S (.cons (.ret (.bi .all (.cons (.lc (.cop .lt (.var 1) (.var 2)) (.tp [1, 2]) (.zip (.var 0) (.slc (.var 0) (.yes (.int 1)) .no)) .no [1, 2]) .nil))) .nil)) (retO Q) := run_eq e3 rfl
theorem u4 {k : Nat} {a0 : SV} {S : Store} {Q : SV → Store → Prop} : WP (C (k + 1) 4 [a0] S) Q ↔ op1 (exSs (Ek k) [some a0] S (.cons (.ret (.and (.call 2 (.cons (.var 0) (.cons (.int 2) (.cons (.int 2) .nil)))) (.and (.call 1 (.cons (.sub (.var 0) (.int 0)) .nil)) (.call 0 (.cons (.sub (.var 0) (.int 1)) (.cons (.int 0) (.cons (.int 3) .nil))))))) .nil)) (retO Q) := run_eq e4 rfl
theorem u5 {k : Nat} {a0 : SV} {S : Store} {Q : SV → Store → Prop} : WP (C (k + 1) 5 [a0] S) Q ↔ op1 (exSs (Ek k) [some a0, none] S (.cons (.ife (.or (.not (.call 2 (.cons (.var 0) (.cons (.int 0) (.cons (.int 8) .nil))))) (.not (.bi .all (.cons (.lc (.call 4 (.cons (.var 1) .nil)) (.nm 1) (.seq (.var 0)) .no [1]) .nil)))) (.cons (.ret (.bl false)) .nil) .nil) (.cons (.ret (.call 3 (.cons (.lc (.sub (.var 1) (.int 0)) (.nm 1) (.seq (.var 0)) .no [1]) .nil))) .nil))) (retO Q) := run_eq e5 rfl
theorem u6 {k : Nat} {a0 : SV} {S : Store} {Q : SV → Store → Prop} : WP (C (k + 1) 6 [a0] S) Q ↔ op1 (exSs (Ek k) [some a0] S (.cons (.ife (.or (.not (.call 2 (.cons (.var 0) (.cons (.int 4) (.cons (.int 4) .nil))))) (.or (.not (.call 1 (.cons (.sub (.var 0) (.int 0)) .nil))) (.not (.call 0 (.cons (.sub (.var 0) (.int 1)) (.cons (.int 2) (.cons (.int 4) .nil))))))) (.cons (.ret (.bl false)) .nil) .nil) (.cons (.ife (.not (.call 0 (.cons (.sub (.var 0) (.int 2)) (.cons (.int 0) (.cons (.bop .sub (.sub (.var 0) (.int 1)) (.int 1)) .nil))))) (.cons (.ret (.bl false)) .nil) .nil) (.cons (.ret (.or (.and (.isi (.sub (.var 0) (.int 3)) .str) (.cop .eq (.sub (.var 0) (.int 3)) (.glob 2))) (.call 0 (.cons (.sub (.var 0) (.int 3)) (.cons (.int 0) (.cons (.bop .sub (.sub (.var 0) (.int 1)) (.int 1)) .nil)))))) .nil)))) (retO Q) := run_eq e6 rfl
theorem u7 {k : Nat} {a0 : SV} {S : Store} {Q : SV → Store → Prop} : WP (C (k + 1) 7 [a0] S) Q ↔ op1 (exSs (Ek k) [some a0, none, none] S (.cons (.ife (.or (.not (.call 2 (.cons (.var 0) (.cons (.int 1) (.cons (.int 3) .nil))))) (.not (.bi .all (.cons (.lc (.call 6 (.cons (.var 1) .nil)) (.nm 1) (.seq (.var 0)) .no [1]) .nil)))) (.cons (.ret (.bl false)) .nil) .nil) (.cons (.asg (.nm 2) (.int 1)) (.cons (.forr (.nm 1) (.seq (.var 0)) (.cons (.asg (.nm 2) (.bop .mul (.var 2) (.sub (.var 1) (.int 1)))) .nil)) (.cons (.ret (.and (.call 3 (.cons (.lc (.sub (.var 1) (.int 0)) (.nm 1) (.seq (.var 0)) .no [1]) .nil)) (.cop .le (.var 2) (.glob 3)))) .nil))))) (retO Q) := run_eq e7 rfl
theorem u8 {k : Nat} {a0 : SV} {S : Store} {Q : SV → Store → Prop} : WP (C (k + 1) 8 [a0] S) Q ↔ op1 (exSs (Ek k) [some a0] S (.cons (.ret (.and (.isi (.var 0) .str) (.cop .isin (.var 0) (.tup (.cons (.glob 4) (.cons (.glob 5) .nil)))))) .nil)) (retO Q) := run_eq e8 rfl
theorem u9 {k : Nat} {a0 a1 : SV} {S : Store} {Q : SV → Store → Prop} : WP (C (k + 1) 9 [a0, a1] S) Q ↔ op1 (exSs (Ek k) [some a0, some a1] S (.cons (.ret (.ite (.isi (.var 1) .str) (.cop .isin (.var 1) (.var 0)) (.call 0 (.cons (.var 1) (.cons (.int 0) (.cons (.int 3) .nil)))))) .nil)) (retO Q) := run_eq e9 rfl
theorem u10 {k : Nat} {a0 a1 : SV} {S : Store} {Q : SV → Store → Prop} : WP (C (k + 1) 10 [a0, a1] S) Q ↔ op1 (exSs (Ek k) [some a0, some a1] S (.cons (.ife (.not (.isi (.var 1) .tuple)) (.cons (.ret (.call 9 (.cons (.var 0) (.cons (.var 1) .nil)))) .nil) .nil) (.cons (.ife (.or (.cop .ne (.bi .len (.cons (.var 1) .nil)) (.int 3)) (.or (.not (.isi (.sub (.var 1) (.int 0)) .str)) (.cop .ne (.sub (.var 1) (.int 0)) (.glob 6)))) (.cons (.ret (.bl false)) .nil) .nil) (.cons (.ret (.and (.call 9 (.cons (.var 0) (.cons (.sub (.var 1) (.int 1)) .nil))) (.call 9 (.cons (.var 0) (.cons (.sub (.var 1) (.int 2)) .nil))))) .nil)))) (retO Q) := run_eq e10 rfl
theorem u11 {k : Nat} {a0 a1 : SV} {S : Store} {Q : SV → Store → Prop} : WP (C (k + 1) 11 [a0, a1] S) Q ↔ op1 (exSs (Ek k) [some a0, some a1] S (.cons (.ife (.or (.not (.call 2 (.cons (.var 1) (.cons (.int 3) (.cons (.int 3) .nil))))) (.or (.not (.isi (.sub (.var 1) (.int 1)) .str)) (.cop .notin (.sub (.var 1) (.int 1)) (.tup (.cons (.str "=") (.cons (.str "<") .nil)))))) (.cons (.ret (.bl false)) .nil) .nil) (.cons (.ret (.and (.call 9 (.cons (.var 0) (.cons (.sub (.var 1) (.int 0)) .nil))) (.call 9 (.cons (.var 0) (.cons (.sub (.var 1) (.int 2)) .nil))))) .nil))) (retO Q) := run_eq e11 rfl
theorem u12 {k : Nat} {a0 a1 : SV} {S : Store} {Q : SV → Store → Prop} : WP (C (k + 1) 12 [a0, a1] S) Q ↔ op1 (exSs (Ek k) [some a0, some a1] S (.cons (.ife (.or (.not (.call 2 (.cons (.var 1) (.cons (.int 2) (.cons (.int 2) .nil))))) (.or (.not (.isi (.sub (.var 1) (.int 0)) .str)) (.or (.cop .eq (.sub (.var 1) (.int 0)) (.glob 7)) (.cop .notin (.sub (.var 1) (.int 0)) (.var 0))))) (.cons (.ret (.bl false)) .nil) .nil) (.cons (.ret (.call 10 (.cons (.var 0) (.cons (.sub (.var 1) (.int 1)) .nil)))) .nil))) (retO Q) := run_eq e12 rfl
theorem u13 {k : Nat} {a0 a1 : SV} {S : Store} {Q : SV → Store → Prop} : WP (C (k + 1) 13 [a0, a1] S) Q ↔ op1 (exSs (Ek k) [some a0, some a1, none, none] S (.cons (.ife (.or (.not (.call 2 (.cons (.var 1) (.cons (.int 3) (.cons (.int 3) .nil))))) (.or (.not (.call 2 (.cons (.sub (.var 1) (.int 0)) (.cons (.int 0) (.cons (.int 2) .nil))))) (.not (.call 2 (.cons (.sub (.var 1) (.int 1)) (.cons (.int 0) (.cons (.int 3) .nil))))))) (.cons (.ret (.bl false)) .nil) .nil) (.cons (.ife (.or (.not (.bi .all (.cons (.lc (.call 11 (.cons (.var 0) (.cons (.var 2) .nil))) (.nm 2) (.seq (.sub (.var 1) (.int 0))) .no [2]) .nil))) (.not (.bi .all (.cons (.lc (.call 12 (.cons (.var 0) (.cons (.var 2) .nil))) (.nm 2) (.seq (.sub (.var 1) (.int 1))) .no [2]) .nil)))) (.cons (.ret (.bl false)) .nil) .nil) (.cons (.ret (.and (.call 3 (.cons (.lc (.sub (.var 3) (.int 0)) (.nm 3) (.seq (.sub (.var 1) (.int 1))) .no [3]) .nil)) (.or (.cop .isN (.sub (.var 1) (.int 2)) .non) (.call 10 (.cons (.var 0) (.cons (.sub (.var 1) (.int 2)) .nil)))))) .nil)))) (retO Q) := run_eq e13 rfl
theorem u14 {k : Nat} {a0 : SV} {S : Store} {Q : SV → Store → Prop} : WP (C (k + 1) 14 [a0] S) Q ↔ op1 (exSs (Ek k) [some a0, none] S (.cons (.ret (.lc (.sub (.var 1) (.int 0)) (.nm 1) (.seq (.var 0)) .no [1])) .nil)) (retO Q) := run_eq e14 rfl
theorem u15 {k : Nat} {a0 a1 : SV} {S : Store} {Q : SV → Store → Prop} : WP (C (k + 1) 15 [a0, a1] S) Q ↔ op1 (exSs (Ek k) [some a0, some a1, none] S (.cons (.ife (.or (.not (.call 2 (.cons (.var 1) (.cons (.int 3) (.cons (.int 3) .nil))))) (.or (.not (.call 1 (.cons (.sub (.var 1) (.int 0)) .nil))) (.not (.call 0 (.cons (.sub (.var 1) (.int 1)) (.cons (.int 1) (.cons (.int 3) .nil))))))) (.cons (.ret (.bl false)) .nil) .nil) (.cons (.ret (.and (.call 2 (.cons (.sub (.var 1) (.int 2)) (.cons (.int 0) (.cons (.int 4) .nil)))) (.bi .all (.cons (.lc (.call 13 (.cons (.bop .add (.call 14 (.cons (.var 0) .nil)) (.lst (.cons (.glob 7) .nil))) (.cons (.var 2) .nil))) (.nm 2) (.seq (.sub (.var 1) (.int 2))) .no [2]) .nil)))) .nil))) (retO Q) := run_eq e15 rfl
theorem u16 {k : Nat} {a0 a1 : SV} {S : Store} {Q : SV → Store → Prop} : WP (C (k + 1) 16 [a0, a1] S) Q ↔ op1 (exSs (Ek k) [some a0, some a1, none] S (.cons (.ife (.or (.not (.call 2 (.cons (.var 1) (.cons (.int 0) (.cons (.int 3) .nil))))) (.not (.bi .all (.cons (.lc (.call 13 (.cons (.call 14 (.cons (.var 0) .nil)) (.cons (.var 2) .nil))) (.nm 2) (.seq (.var 1)) .no [2]) .nil)))) (.cons (.ret (.bl false)) .nil) .nil) (.cons (.ret (.bi .all (.cons (.lc (.cop .isN (.sub (.var 2) (.int 2)) .non) (.nm 2) (.seq (.var 1)) .no [2]) .nil))) .nil))) (retO Q) := run_eq e16 rfl
theorem u17 {k : Nat} {a0 : SV} {S : Store} {Q : SV → Store → Prop} : WP (C (k + 1) 17 [a0] S) Q ↔ op1 (exSs (Ek k) [some a0, none] S (.cons (.ife (.or (.not (.call 2 (.cons (.var 0) (.cons (.int 4) (.cons (.int 4) .nil))))) (.or (.not (.call 7 (.cons (.sub (.var 0) (.int 0)) .nil))) (.not (.call 8 (.cons (.sub (.var 0) (.int 1)) .nil))))) (.cons (.ret (.bl false)) .nil) .nil) (.cons (.ife (.or (.not (.call 2 (.cons (.sub (.var 0) (.int 2)) (.cons (.int 1) (.cons (.int 4) .nil))))) (.not (.bi .all (.cons (.lc (.call 15 (.cons (.sub (.var 0) (.int 0)) (.cons (.var 1) .nil))) (.nm 1) (.seq (.sub (.var 0) (.int 2))) .no [1]) .nil)))) (.cons (.ret (.bl false)) .nil) .nil) (.cons (.ret (.and (.call 3 (.cons (.lc (.sub (.var 1) (.int 0)) (.nm 1) (.seq (.sub (.var 0) (.int 2))) .no [1]) .nil)) (.call 16 (.cons (.sub (.var 0) (.int 0)) (.cons (.sub (.var 0) (.int 3)) .nil))))) .nil)))) (retO Q) := run_eq e17 rfl
theorem u60 {k : Nat} {a0 : SV} {S : Store} {Q : SV → Store → Prop} : WP (C (k + 1) 60 [a0] S) Q ↔ op1 (exSs (Ek k) [some a0] S (.cons (.ife (.not (.call 5 (.cons (.var 0) .nil))) (.cons .never .nil) .nil) .nil)) (retO Q) := run_eq e60 rfl
theorem u61 {k : Nat} {a0 : SV} {S : Store} {Q : SV → Store → Prop} : WP (C (k + 1) 61 [a0] S) Q ↔ op1 (exSs (Ek k) [some a0] S (.cons (.ife (.not (.call 17 (.cons (.var 0) .nil))) (.cons .never .nil) .nil) .nil)) (retO Q) := run_eq e61 rfl
theorem u62 {k : Nat} {a0 a1 : SV} {S : Store} {Q : SV → Store → Prop} : WP (C (k + 1) 62 [a0, a1] S) Q ↔ op1 (exSs (Ek k) [some a0, some a1, none, none, none, none] S (.cons (.asg (.tp [2, 3, 4, 5]) (.var 0)) (.cons (.ife (.cop .isN (.var 1) .non) (.cons (.ret (.var 4)) .nil) .nil) (.cons (.ife (.cop .lt (.var 1) (.var 3)) (.cons (.ret (.var 1)) .nil) .nil) (.cons (.ret (.ite (.cop .eq (.var 5) (.glob 2)) .non (.var 5))) .nil))))) (retO Q) := run_eq e62 rfl
theorem u63 {k : Nat} {a0 a1 : SV} {S : Store} {Q : SV → Store → Prop} : WP (C (k + 1) 63 [a0, a1] S) Q ↔ op1 (exSs (Ek k) [some a0, some a1, none, none, none] S (.cons (.asg (.nm 2) (.bi .dict (.cons (.var 1) .nil))) (.cons (.frz 2) (.cons (.asg (.nm 3) (.bi .tuple (.cons (.lc (.call 62 (.cons (.var 4) (.cons (.get2 (.var 2) (.sub (.var 4) (.int 0)) .non) .nil))) (.nm 4) (.seq (.sub (.var 0) (.int 0))) .no [4]) .nil))) (.cons (.ret (.ite (.cop .isin .non (.var 3)) .non (.var 3))) .nil))))) (retO Q) := run_eq e63 rfl
theorem u64 {k : Nat} {a0 : SV} {S : Store} {Q : SV → Store → Prop} : WP (C (k + 1) 64 [a0] S) Q ↔ op1 (exSs (Ek k) [some a0, none] S (.cons (.ret (.bi .tuple (.cons (.lc (.sub (.var 1) (.int 2)) (.nm 1) (.seq (.sub (.var 0) (.int 0))) .no [1]) .nil))) .nil)) (retO Q) := run_eq e64 rfl
theorem u65 {k : Nat} {a0 a1 : SV} {S : Store} {Q : SV → Store → Prop} : WP (C (k + 1) 65 [a0, a1] S) Q ↔ op1 (exSs (Ek k) [some a0, some a1] S (.cons (.expr (.call 61 (.cons (.var 0) .nil))) (.cons (.expr (.call 60 (.cons (.var 1) .nil))) (.cons (.ret (.call 63 (.cons (.var 0) (.cons (.var 1) .nil)))) .nil)))) (retO Q) := run_eq e65 rfl
theorem u66 {k : Nat} {a0 : SV} {S : Store} {Q : SV → Store → Prop} : WP (C (k + 1) 66 [a0] S) Q ↔ op1 (exSs (Ek k) [some a0] S (.cons (.expr (.call 61 (.cons (.var 0) .nil))) (.cons (.ret (.call 64 (.cons (.var 0) .nil))) .nil))) (retO Q) := run_eq e66 rfl
theorem u18 {k : Nat} {a0 a1 : SV} {S : Store} {Q : SV → Store → Prop} : WP (C (k + 1) 18 [a0, a1] S) Q ↔ op1 (exSs (Ek k) [some a0, some a1, none, none, none] S (.cons (.asg (.nm 2) (.int 0)) (.cons (.ife (.cop .lt (.var 1) (.bi .len (.cons (.var 0) .nil))) (.cons (.asg (.nm 2) (.bop .mod (.bi .int (.cons (.sub (.var 0) (.var 1)) .nil)) (.bop .pow (.int 10) (.int 60)))) .nil) .nil) (.cons (.asg (.nm 3) (.bop .add (.bop .mul (.bop .mod (.bi .int (.cons (.var 2) .nil)) (.int 2147483629)) (.int 16807)) (.bop .mul (.bop .mul (.int 40009) (.var 1)) (.var 1)))) (.cons (.frz 3) (.cons (.asg (.nm 4) (.bop .add (.int 1) (.bop .mod (.bi .int (.cons (.bop .add (.bop .add (.var 3) (.bop .mul (.int 7919) (.var 1))) (.int 1009)) .nil)) (.int 2147483645)))) (.cons (.frz 4) (.cons (.ife (.cop .lt (.var 2) (.bop .pow (.int 10) (.int 18))) (.cons (.ret (.cel (.cons (.int 0) (.cons (.var 4) .nil)))) .nil) .nil) (.cons (.ret (.cel (.cons (.var 2) (.cons (.var 4) .nil)))) .nil))))))))) (retO Q) := run_eq e18 rfl
theorem u19 {k : Nat} {a0 a1 : SV} {S : Store} {Q : SV → Store → Prop} : WP (C (k + 1) 19 [a0, a1] S) Q ↔ op1 (exSs (Ek k) [some a0, some a1, none, none] S (.cons (.ife (.cop .gt (.sub (.var 0) (.int 0)) (.int 0)) (.cons (.asg (.nm 2) (.bop .mod (.bi .int (.cons (.sub (.var 0) (.int 0)) .nil)) (.var 1))) (.cons (.put 0 (.int 0) (.bop .fdiv (.bi .int (.cons (.sub (.var 0) (.int 0)) .nil)) (.var 1))) (.cons (.ret (.var 2)) .nil))) .nil) (.cons (.put 0 (.int 1) (.bop .mod (.bi .int (.cons (.bop .mul (.sub (.var 0) (.int 1)) (.int 48271)) .nil)) (.int 2147483647))) (.cons (.asg (.nm 3) (.bop .mul (.bop .fdiv (.bi .int (.cons (.sub (.var 0) (.int 1)) .nil)) (.int 13)) (.bop .add (.bop .mod (.bi .int (.cons (.sub (.var 0) (.int 1)) .nil)) (.int 32749)) (.int 17)))) (.cons (.frz 3) (.cons (.ret (.bop .mod (.bi .int (.cons (.bop .fdiv (.bop .mod (.bi .int (.cons (.var 3) .nil)) (.int 2147483629)) (.int 32)) .nil)) (.var 1))) .nil)))))) (retO Q) := run_eq e19 rfl
theorem u20 {k : Nat} {a0 a1 : SV} {S : Store} {Q : SV → Store → Prop} : WP (C (k + 1) 20 [a0, a1] S) Q ↔ op1 (exSs (Ek k) [some a0, some a1] S (.cons (.ret (.sub (.var 1) (.call 19 (.cons (.var 0) (.cons (.bi .len (.cons (.var 1) .nil)) .nil))))) .nil)) (retO Q) := run_eq e20 rfl
theorem u21 {k : Nat} {a0 : SV} {S : Store} {Q : SV → Store → Prop} : WP (C (k + 1) 21 [a0] S) Q ↔ op1 (exSs (Ek k) [some a0, none, none] S (.cons (.asg (.nm 1) (.call 20 (.cons (.var 0) (.cons (.lst (.cons (.lst (.cons (.str "n") (.cons (.str "m") (.cons (.str "tag") (.cons (.str "kind") .nil))))) (.cons (.lst (.cons (.str "a") (.cons (.str "aa") (.cons (.str "ab") (.cons (.str "zzzzzzzz") .nil))))) (.cons (.lst (.cons (.str "level") (.cons (.str "mark") (.cons (.str "owner") (.cons (.str "state") .nil))))) .nil)))) .nil)))) (.cons (.asg (.nm 2) (.call 19 (.cons (.var 0) (.cons (.int 4) .nil)))) (.cons (.ret (.bop .add (.slc (.var 1) (.yes (.var 2)) .no) (.slc (.var 1) .no (.yes (.var 2))))) .nil)))) (retO Q) := run_eq e21 rfl
theorem u22 {k : Nat} {a0 : SV} {S : Store} {Q : SV → Store → Prop} : WP (C (k + 1) 22 [a0] S) Q ↔ op1 (exSs (Ek k) [some a0] S (.cons (.ret (.call 20 (.cons (.var 0) (.cons (.lst (.cons (.lst (.cons (.str "flip") (.cons (.str "mark") (.cons (.str "show") (.cons (.str "tagged") .nil))))) (.cons (.lst (.cons (.str "a") (.cons (.str "b") (.cons (.str "c") (.cons (.str "d") .nil))))) (.cons (.lst (.cons (.str "n") (.cons (.str "put") (.cons (.str "puts") (.cons (.str "tag") .nil))))) .nil)))) .nil)))) .nil)) (retO Q) := run_eq e22 rfl
theorem u23 {k : Nat} {a0 a1 : SV} {S : Store} {Q : SV → Store → Prop} : WP (C (k + 1) 23 [a0, a1] S) Q ↔ op1 (exSs (Ek k) [some a0, some a1] S (.cons (.ret (.call 20 (.cons (.var 0) (.cons (.bop .add (.bop .add (.lst (.cons (.int 0) (.cons (.int 1) (.cons (.call 19 (.cons (.var 0) (.cons (.int 4) .nil))) .nil)))) (.bi .list (.cons (.var 1) .nil))) (.bi .list (.cons (.var 1) .nil))) .nil)))) .nil)) (retO Q) := run_eq e23 rfl
theorem u24 {k : Nat} {a0 a1 : SV} {S : Store} {Q : SV → Store → Prop} : WP (C (k + 1) 24 [a0, a1] S) Q ↔ op1 (exSs (Ek k) [some a0, some a1] S (.cons (.ife (.cop .eq (.call 19 (.cons (.var 0) (.cons (.int 4) .nil))) (.int 0)) (.cons (.ret (.tup (.cons (.str "sum") (.cons (.call 23 (.cons (.var 0) (.cons (.var 1) .nil))) (.cons (.call 23 (.cons (.var 0) (.cons (.var 1) .nil))) .nil))))) .nil) .nil) (.cons (.ret (.call 23 (.cons (.var 0) (.cons (.var 1) .nil)))) .nil))) (retO Q) := run_eq e24 rfl
theorem u25 {k : Nat} {a0 a1 a2 a3 : SV} {S : Store} {Q : SV → Store → Prop} : WP (C (k + 1) 25 [a0, a1, a2, a3] S) Q ↔ op1 (exSs (Ek k) [some a0, some a1, some a2, some a3, none, none, none, none, none, none, none] S (.cons (.asg (.nm 4) (.tup .nil)) (.cons (.forr (.nm 5) (.rng (.call 20 (.cons (.var 0) (.cons (.lst (.cons (.int 0) (.cons (.int 0) (.cons (.int 1) (.cons (.int 1) (.cons (.int 2) .nil)))))) .nil)))) (.cons (.par [6, 7] (.cons (.call 23 (.cons (.var 0) (.cons (.var 1) .nil))) (.cons (.call 23 (.cons (.var 0) (.cons (.var 1) .nil))) .nil))) (.cons (.asg (.nm 4) (.bop .add (.var 4) (.tup (.cons (.tup (.cons (.var 6) (.cons (.call 20 (.cons (.var 0) (.cons (.lst (.cons (.str "=") (.cons (.str "=") (.cons (.str "<") .nil)))) .nil))) (.cons (.var 7) .nil)))) .nil)))) (.cons (.frz 4) .nil)))) (.cons (.asg (.nm 8) (.bi .tuple (.cons (.lc (.tup (.cons (.var 9) (.cons (.call 24 (.cons (.var 0) (.cons (.var 1) .nil))) .nil))) (.nm 9) (.seq (.bi .sorted (.cons (.var 2) .nil))) (.yes (.cop .eq (.call 19 (.cons (.var 0) (.cons (.int 3) .nil))) (.int 0))) [9]) .nil))) (.cons (.asg (.nm 10) (.ite (.and (.var 3) (.cop .eq (.call 19 (.cons (.var 0) (.cons (.int 2) .nil))) (.int 0))) (.call 24 (.cons (.var 0) (.cons (.var 1) .nil))) .non)) (.cons (.ret (.tup (.cons (.var 4) (.cons (.var 8) (.cons (.var 10) .nil))))) .nil)))))) (retO Q) := run_eq e25 rfl
theorem u26 {k : Nat} {a0 a1 : SV} {S : Store} {Q : SV → Store → Prop} : WP (C (k + 1) 26 [a0, a1] S) Q ↔ op1 (exSs (Ek k) [some a0, some a1, none, none, none, none, none, none, none, none] S (.cons (.par [2, 3] (.cons (.tup .nil) (.cons (.int 1) .nil))) (.cons (.forr (.nm 4) (.rng (.bi .len (.cons (.var 1) .nil))) (.cons (.asg (.nm 5) (.int 24)) (.cons (.forr (.nm 6) (.seq (.slc (.var 1) (.yes (.bop .add (.var 4) (.int 1))) .no)) (.cons (.asg (.nm 5) (.bop .fdiv (.var 5) (.int 2))) .nil)) (.cons (.asg (.nm 7) (.call 20 (.cons (.var 0) (.cons (.lst (.cons (.int 2) (.cons (.int 2) (.cons (.int 3) (.cons (.int 3) (.cons (.int 4) .nil)))))) .nil)))) (.cons (.asg (.nm 7) (.ite (.cop .le (.bop .mul (.var 3) (.var 7)) (.var 5)) (.var 7) (.int 2))) (.cons (.asg (.nm 3) (.bop .mul (.var 3) (.var 7))) (.cons (.asg (.nm 8) (.call 20 (.cons (.var 0) (.cons (.lst (.cons (.int 0) (.cons (.int 0) (.cons (.int 0) (.cons (.call 19 (.cons (.var 0) (.cons (.var 7) .nil))) .nil))))) .nil)))) (.cons (.asg (.nm 9) (.call 20 (.cons (.var 0) (.cons (.lst (.cons (.str "refuse") (.cons (.str "refuse") (.cons (.call 19 (.cons (.var 0) (.cons (.var 7) .nil))) .nil)))) .nil)))) (.cons (.asg (.nm 2) (.bop .add (.var 2) (.tup (.cons (.tup (.cons (.sub (.bi .sorted (.cons (.var 1) .nil)) (.var 4)) (.cons (.var 7) (.cons (.var 8) (.cons (.var 9) .nil))))) .nil)))) (.cons (.frz 2) .nil)))))))))) (.cons (.ret (.var 2)) .nil)))) (retO Q) := run_eq e26 rfl
theorem u27 {k : Nat} {a0 a1 a2 : SV} {S : Store} {Q : SV → Store → Prop} : WP (C (k + 1) 27 [a0, a1, a2] S) Q ↔ op1 (exSs (Ek k) [some a0, some a1, some a2, none, none, none, none, none, none, none, none] S (.cons (.par [3, 4] (.cons (.call 26 (.cons (.var 0) (.cons (.var 1) .nil))) (.cons (.tup .nil) .nil))) (.cons (.forr (.nm 5) (.seq (.bi .sorted (.cons (.var 2) .nil))) (.cons (.asg (.nm 6) (.lc (.sub (.var 7) (.int 0)) (.nm 7) (.seq (.var 3)) .no [7])) (.cons (.frz 6) (.cons (.asg (.nm 8) (.bi .tuple (.cons (.lc (.call 25 (.cons (.var 0) (.cons (.bop .add (.var 6) (.lst (.cons (.str "arg") .nil))) (.cons (.var 6) (.cons (.bl true) .nil))))) (.nm 9) (.rng (.bop .add (.int 1) (.call 19 (.cons (.var 0) (.cons (.int 3) .nil))))) .no [9]) .nil))) (.cons (.asg (.nm 4) (.bop .add (.var 4) (.tup (.cons (.tup (.cons (.var 5) (.cons (.call 20 (.cons (.var 0) (.cons (.lst (.cons (.int 1) (.cons (.int 1) (.cons (.int 1) (.cons (.int 2) (.cons (.int 3) .nil)))))) .nil))) (.cons (.var 8) .nil)))) .nil)))) (.cons (.frz 4) .nil)))))) (.cons (.asg (.nm 10) (.tup .nil)) (.cons (.ife (.cop .eq (.call 19 (.cons (.var 0) (.cons (.int 3) .nil))) (.int 0)) (.cons (.asg (.nm 10) (.tup (.cons (.call 25 (.cons (.var 0) (.cons (.lc (.sub (.var 7) (.int 0)) (.nm 7) (.seq (.var 3)) .no [7]) (.cons (.lc (.sub (.var 7) (.int 0)) (.nm 7) (.seq (.var 3)) .no [7]) (.cons (.bl false) .nil))))) .nil))) .nil) .nil) (.cons (.ret (.tup (.cons (.var 3) (.cons (.call 20 (.cons (.var 0) (.cons (.lst (.cons (.str "whole") (.cons (.str "part") (.cons (.str "part") .nil)))) .nil))) (.cons (.var 4) (.cons (.var 10) .nil)))))) .nil)))))) (retO Q) := run_eq e27 rfl
theorem u28 {k : Nat} {a0 a1 a2 : SV} {S : Store} {Q : SV → Store → Prop} : WP (C (k + 1) 28 [a0, a1, a2] S) Q ↔ op1 (exSs (Ek k) [some a0, some a1, some a2, none, none, none, none, none, none, none, none, none, none] S (.cons (.par [3, 4] (.cons (.call 26 (.cons (.var 0) (.cons (.slc (.var 1) .no (.yes (.int 2))) .nil))) (.cons (.lst .nil) .nil))) (.cons (.par [5, 6] (.cons (.sub (.sub (.var 3) (.int 0)) (.int 0)) (.cons (.sub (.sub (.var 3) (.neg (.int 1))) (.int 0)) .nil))) (.cons (.asg (.nm 7) (.tup (.cons (.tup .nil) (.cons (.tup (.cons (.tup (.cons (.var 5) (.cons (.tup (.cons (.str "sum") (.cons (.var 5) (.cons (.int 1) .nil)))) .nil))) .nil)) (.cons .non .nil))))) (.cons (.asg (.nm 8) (.tup (.cons (.tup (.cons (.tup (.cons (.var 5) (.cons (.str "=") (.cons (.int 0) .nil)))) .nil)) (.cons (.tup (.cons (.tup (.cons (.var 5) (.cons (.int 1) .nil))) .nil)) (.cons .non .nil))))) (.cons (.app 4 (.tup (.cons (.int 1) (.cons (.call 20 (.cons (.var 0) (.cons (.lst (.cons (.tup (.cons (.var 7) .nil)) (.cons (.tup (.cons (.var 8) (.cons (.tup (.cons (.tup .nil) (.cons (.tup (.cons (.tup (.cons (.var 5) (.cons (.int 0) .nil))) .nil)) (.cons .non .nil)))) .nil))) .nil))) .nil))) .nil)))) (.cons (.app 4 (.tup (.cons (.call 20 (.cons (.var 0) (.cons (.lst (.cons (.int 2) (.cons (.int 3) .nil))) .nil))) (.cons (.tup (.cons (.tup (.cons (.tup .nil) (.cons (.tup (.cons (.tup (.cons (.var 6) (.cons (.str "arg") .nil))) .nil)) (.cons .non .nil)))) .nil)) .nil)))) (.cons (.app 4 (.tup (.cons (.int 1) (.cons (.tup (.cons (.tup (.cons (.tup .nil) (.cons (.tup .nil) (.cons (.var 5) .nil)))) .nil)) .nil)))) (.cons (.app 4 (.tup (.cons (.int 1) (.cons (.tup (.cons (.tup (.cons (.tup .nil) (.cons (.tup .nil) (.cons (.var 6) .nil)))) .nil)) .nil)))) (.cons (.frz 4) (.cons (.asg (.nm 9) (.bi .tuple (.cons (.lc (.bop .add (.tup (.cons (.var 10) .nil)) (.var 11)) (.tp [10, 11]) (.zip (.var 2) (.var 4)) .no [10, 11]) .nil))) (.cons (.asg (.nm 12) (.tup .nil)) (.cons (.ife (.cop .eq (.call 19 (.cons (.var 0) (.cons (.int 3) .nil))) (.int 0)) (.cons (.asg (.nm 12) (.tup (.cons (.tup (.cons (.tup .nil) (.cons (.tup (.cons (.tup (.cons (.var 6) (.cons (.var 6) .nil))) .nil)) (.cons .non .nil)))) .nil))) .nil) .nil) (.cons (.ret (.tup (.cons (.var 3) (.cons (.call 20 (.cons (.var 0) (.cons (.lst (.cons (.str "whole") (.cons (.str "part") (.cons (.str "part") .nil)))) .nil))) (.cons (.var 9) (.cons (.var 12) .nil)))))) .nil)))))))))))))) (retO Q) := run_eq e28 rfl
theorem u29 {k : Nat} {a0 : SV} {S : Store} {Q : SV → Store → Prop} : WP (C (k + 1) 29 [a0] S) Q ↔ op1 (exSs (Ek k) [some a0, none, none, none, none, none, none, none, none] S (.cons (.asg (.nm 1) (.lst .nil)) (.cons (.frz 1) (.cons (.forr (.tp [2, 3, 4]) (.seq (.var 0)) (.cons (.forr (.nm 5) (.seq (.bop .add (.bop .add (.bi .list (.cons (.var 2) .nil)) (.bi .list (.cons (.var 3) .nil))) (.lst (.cons (.tup (.cons (.var 4) .nil)) .nil)))) (.cons (.forr (.nm 6) (.seq (.var 5)) (.cons (.asg (.nm 7) (.ite (.isi (.var 6) .tuple) (.var 6) (.tup (.cons (.var 6) .nil)))) (.cons (.asg (.nm 1) (.bop .add (.var 1) (.lc (.var 8) (.nm 8) (.seq (.var 7)) (.yes (.isi (.var 8) .str)) [8]))) (.cons (.frz 1) .nil)))) .nil)) .nil)) (.cons (.ret (.var 1)) .nil))))) (retO Q) := run_eq e29 rfl
theorem u30 {k : Nat} {a0 a1 : SV} {S : Store} {Q : SV → Store → Prop} : WP (C (k + 1) 30 [a0, a1] S) Q ↔ op1 (exSs (Ek k) [some a0, some a1, none, none, none, none, none, none, none, none, none, none, none, none, none, none] S (.cons (.asg (.nm 2) (.lc (.var 3) (.nm 3) (.seq (.sub (.var 1) (.int 0))) (.yes (.cop .gt (.call 19 (.cons (.var 0) (.cons (.int 4) .nil))) (.int 0))) [3])) (.cons (.frz 2) (.cons (.asg (.nm 2) (.ite (.cop .ne (.var 2) (.lst .nil)) (.var 2) (.lst (.cons (.sub (.sub (.var 1) (.int 0)) (.int 0)) .nil)))) (.cons (.asg (.nm 4) (.tup .nil)) (.cons (.forr (.tp [5, 6, 7, 8]) (.seq (.var 2)) (.cons (.asg (.nm 9) (.call 20 (.cons (.var 0) (.cons (.lst (.cons (.var 6) (.cons (.var 6) (.cons (.var 6) (.cons (.int 2) .nil))))) .nil)))) (.cons (.asg (.nm 7) (.ite (.cop .lt (.var 7) (.var 9)) (.var 7) (.int 0))) (.cons (.asg (.nm 8) (.call 20 (.cons (.var 0) (.cons (.lst (.cons (.str "refuse") (.cons (.str "refuse") (.cons (.call 19 (.cons (.var 0) (.cons (.var 9) .nil))) .nil)))) .nil)))) (.cons (.asg (.nm 4) (.bop .add (.var 4) (.tup (.cons (.tup (.cons (.var 5) (.cons (.var 9) (.cons (.var 7) (.cons (.var 8) .nil))))) .nil)))) (.cons (.frz 4) .nil)))))) (.cons (.asg (.nm 10) (.lc (.sub (.var 3) (.int 0)) (.nm 3) (.seq (.sub (.var 1) (.int 0))) (.yes (.cop .notin (.var 3) (.var 2))) [3])) (.cons (.frz 10) (.cons (.asg (.nm 11) (.tup .nil)) (.cons (.forr (.tp [5, 12, 13]) (.seq (.sub (.var 1) (.int 2))) (.cons (.ife (.and (.cop .eq (.lc (.var 14) (.nm 14) (.seq (.call 29 (.cons (.var 13) .nil))) (.yes (.cop .isin (.var 14) (.var 10))) [14]) (.lst .nil)) (.cop .gt (.call 19 (.cons (.var 0) (.cons (.int 5) .nil))) (.int 0))) (.cons (.asg (.nm 11) (.bop .add (.var 11) (.tup (.cons (.tup (.cons (.var 5) (.cons (.call 20 (.cons (.var 0) (.cons (.lst (.cons (.var 12) (.cons (.var 12) (.cons (.int 1) .nil)))) .nil))) (.cons (.var 13) .nil)))) .nil)))) (.cons (.frz 11) .nil)) .nil) .nil)) (.cons (.ife (.cop .eq (.var 11) (.tup .nil)) (.cons (.asg (.nm 11) (.tup (.cons (.tup (.cons (.sub (.sub (.sub (.var 1) (.int 2)) (.int 0)) (.int 0)) (.cons (.int 1) (.cons (.tup .nil) .nil)))) .nil))) .nil) .nil) (.cons (.asg (.nm 15) (.ite (.cop .eq (.lc (.var 14) (.nm 14) (.seq (.call 29 (.cons (.sub (.var 1) (.int 3)) .nil))) (.yes (.cop .isin (.var 14) (.var 10))) [14]) (.lst .nil)) (.sub (.var 1) (.int 3)) (.tup .nil))) (.cons (.ret (.tup (.cons (.var 4) (.cons (.call 20 (.cons (.var 0) (.cons (.lst (.cons (.str "whole") (.cons (.str "part") .nil))) .nil))) (.cons (.var 11) (.cons (.call 20 (.cons (.var 0) (.cons (.lst (.cons (.var 15) (.cons (.tup .nil) .nil))) .nil))) .nil)))))) .nil))))))))))))) (retO Q) := run_eq e30 rfl
theorem u31 {k : Nat} {a0 a1 a2 : SV} {S : Store} {Q : SV → Store → Prop} : WP (C (k + 1) 31 [a0, a1, a2] S) Q ↔ op1 (exSs (Ek k) [some a0, some a1, some a2, none, none, none, none] S (.cons (.par [3, 4] (.cons (.slc (.call 21 (.cons (.var 0) .nil)) .no (.yes (.var 2))) (.cons (.call 22 (.cons (.var 0) .nil)) .nil))) (.cons (.frz 3) (.cons (.ife (.cop .eq (.call 19 (.cons (.var 0) (.cons (.int 3) .nil))) (.int 0)) (.cons (.asg (.nm 5) (.call 27 (.cons (.var 0) (.cons (.var 3) (.cons (.slc (.var 4) .no (.yes (.bop .add (.int 2) (.call 20 (.cons (.var 0) (.cons (.lst (.cons (.int 0) (.cons (.int 0) (.cons (.int 1) (.cons (.int 2) .nil))))) .nil)))))) .nil))))) .nil) (.cons (.asg (.nm 5) (.call 28 (.cons (.var 0) (.cons (.var 3) (.cons (.var 4) .nil))))) .nil)) (.cons (.ret (.bop .add (.bi .tuple (.cons (.lc (.call 30 (.cons (.var 0) (.cons (.var 5) .nil))) (.nm 6) (.rng (.bop .sub (.var 1) (.int 1))) .no [6]) .nil)) (.tup (.cons (.var 5) .nil)))) .nil))))) (retO Q) := run_eq e31 rfl
theorem u67 {k : Nat} {a0 a1 : SV} {S : Store} {Q : SV → Store → Prop} : WP (C (k + 1) 67 [a0, a1] S) Q ↔ op1 (exSs (Ek k) [some a0, some a1, none, none, none, none, none, none, none] S (.cons (.par [2, 3] (.cons (.bi .dict (.cons (.var 1) .nil)) (.cons (.tup .nil) .nil))) (.cons (.frz 2) (.cons (.forr (.tp [4, 5, 6, 7]) (.seq (.sub (.var 0) (.int 0))) (.cons (.asg (.nm 8) (.get2 (.var 2) (.var 4) (.var 6))) (.cons (.ife (.and (.cop .ge (.var 8) (.var 5)) (.cop .eq (.var 7) (.str "refuse"))) (.cons (.ret .non) .nil) .nil) (.cons (.asg (.nm 3) (.bop .add (.var 3) (.tup (.cons (.ite (.cop .lt (.var 8) (.var 5)) (.var 8) (.var 7)) .nil)))) (.cons (.frz 3) .nil))))) (.cons (.ret (.var 3)) .nil))))) (retO Q) := run_eq e67 rfl
theorem u68 {k : Nat} {a0 : SV} {S : Store} {Q : SV → Store → Prop} : WP (C (k + 1) 68 [a0] S) Q ↔ op1 (exSs (Ek k) [some a0, none, none, none, none, none, none, none, none, none, none] S (.cons (.forr (.nm 1) (.rng (.bi .max2 (.cons (.int 4) (.cons (.bi .min2 (.cons (.int 10) (.cons (.bop .add (.bi .len (.cons (.var 0) .nil)) (.int 3)) .nil))) .nil)))) (.cons (.asg (.nm 2) (.call 18 (.cons (.var 0) (.cons (.var 1) .nil)))) (.cons (.asg (.nm 3) (.call 21 (.cons (.var 2) .nil))) (.cons (.asg (.nm 4) (.call 20 (.cons (.var 2) (.cons (.call 31 (.cons (.var 2) (.cons (.int 3) (.cons (.bop .add (.int 1) (.call 19 (.cons (.var 2) (.cons (.int 3) .nil)))) .nil)))) .nil)))) (.cons (.asg (.nm 5) (.lc (.sub (.var 6) (.int 0)) (.nm 6) (.seq (.sub (.var 4) (.int 0))) .no [6])) (.cons (.frz 5) (.cons (.ife (.cop .ne (.call 66 (.cons (.var 4) .nil)) (.bi .tuple (.cons (.lc (.sub (.var 6) (.int 2)) (.nm 6) (.seq (.sub (.var 4) (.int 0))) .no [6]) .nil))) (.cons (.ret (.bl false)) .nil) .nil) (.cons (.forr (.nm 7) (.rng (.int 10)) (.cons (.asg (.nm 8) (.sset (.bop .add (.bop .add (.var 5) (.var 3)) (.lst (.cons (.str "other") .nil))))) (.cons (.frz 8) (.cons (.asg (.nm 9) (.bi .tuple (.cons (.lc (.tup (.cons (.var 10) (.cons (.call 19 (.cons (.var 2) (.cons (.int 4) .nil))) .nil))) (.nm 10) (.seq (.var 8)) (.yes (.cop .gt (.call 19 (.cons (.var 2) (.cons (.int 3) .nil))) (.int 0))) [10]) .nil))) (.cons (.ife (.cop .ne (.call 65 (.cons (.var 4) (.cons (.var 9) .nil))) (.call 67 (.cons (.var 4) (.cons (.var 9) .nil)))) (.cons (.ret (.bl false)) .nil) .nil) .nil))))) (.cons (.ife (.cop .ne (.call 65 (.cons (.var 4) (.cons (.tup .nil) .nil))) (.call 66 (.cons (.var 4) .nil))) (.cons (.ret (.bl false)) .nil) .nil) .nil))))))))) (.cons (.asg (.nm 4) (.tup (.cons (.tup (.cons (.tup (.cons (.str "n") (.cons (.int 2) (.cons (.int 1) (.cons (.str "refuse") .nil))))) (.cons (.tup (.cons (.str "tag") (.cons (.int 3) (.cons (.int 0) (.cons (.int 2) .nil))))) .nil))) (.cons (.str "part") (.cons (.tup (.cons (.tup (.cons (.str "show") (.cons (.int 1) (.cons (.tup .nil) .nil)))) .nil)) (.cons (.tup .nil) .nil)))))) (.cons (.asg (.nm 8) (.lst (.cons (.call 65 (.cons (.var 4) (.cons (.tup .nil) .nil))) (.cons (.call 65 (.cons (.var 4) (.cons (.tup (.cons (.tup (.cons (.str "n") (.cons (.int 0) .nil))) (.cons (.tup (.cons (.str "tag") (.cons (.int 3) .nil))) .nil))) .nil))) (.cons (.call 65 (.cons (.var 4) (.cons (.tup (.cons (.tup (.cons (.str "n") (.cons (.int 2) .nil))) .nil)) .nil))) .nil))))) (.cons (.frz 8) (.cons (.ret (.cop .eq (.var 8) (.lst (.cons (.tup (.cons (.int 1) (.cons (.int 0) .nil))) (.cons (.tup (.cons (.int 0) (.cons (.int 2) .nil))) (.cons .non .nil)))))) .nil)))))) (retO Q) := run_eq e68 rfl
end DL.Wk03

namespace DL.Wk03
open PySem PySem.Spec PyProof.Rows L2 DL
def top (i : Nat) : Stmt := PySem.Challenge.pw_wayback_k03_views_of_records.main.body.getD i (.Pass ⟨0, 0, 0, 0⟩)
def r0 : Row := ⟨0, d0, top 13⟩
def r1 : Row := ⟨1, d1, top 14⟩
def r2 : Row := ⟨2, d2, top 15⟩
def r3 : Row := ⟨3, d3, top 16⟩
def r4 : Row := ⟨4, d4, top 17⟩
def r5 : Row := ⟨5, d5, top 18⟩
def r6 : Row := ⟨6, d6, top 19⟩
def r7 : Row := ⟨7, d7, top 20⟩
def r8 : Row := ⟨8, d8, top 21⟩
def r9 : Row := ⟨9, d9, top 22⟩
def r10 : Row := ⟨10, d10, top 23⟩
def r11 : Row := ⟨11, d11, top 24⟩
def r12 : Row := ⟨12, d12, top 25⟩
def r13 : Row := ⟨13, d13, top 26⟩
def r14 : Row := ⟨14, d14, top 27⟩
def r15 : Row := ⟨15, d15, top 28⟩
def r16 : Row := ⟨16, d16, top 29⟩
def r17 : Row := ⟨17, d17, top 30⟩
def r60 : Row := ⟨60, d60, top 31⟩
def r61 : Row := ⟨61, d61, top 32⟩
def r62 : Row := ⟨62, d62, top 34⟩
def r63 : Row := ⟨63, d63, top 35⟩
def r64 : Row := ⟨64, d64, top 36⟩
def r65 : Row := ⟨65, d65, top 37⟩
def r66 : Row := ⟨66, d66, top 38⟩
def r18 : Row := ⟨18, d18, top 40⟩
def r19 : Row := ⟨19, d19, top 41⟩
def r20 : Row := ⟨20, d20, top 42⟩
def r21 : Row := ⟨21, d21, top 43⟩
def r22 : Row := ⟨22, d22, top 44⟩
def r23 : Row := ⟨23, d23, top 45⟩
def r24 : Row := ⟨24, d24, top 46⟩
def r25 : Row := ⟨25, d25, top 47⟩
def r26 : Row := ⟨26, d26, top 48⟩
def r27 : Row := ⟨27, d27, top 49⟩
def r28 : Row := ⟨28, d28, top 50⟩
def r29 : Row := ⟨29, d29, top 51⟩
def r30 : Row := ⟨30, d30, top 52⟩
def r31 : Row := ⟨31, d31, top 53⟩
def r67 : Row := ⟨67, d67, top 54⟩
def r68 : Row := ⟨68, d68, top 55⟩
def tb : Tb := ⟨[r0, r1, r2, r3, r4, r5, r6, r7, r8, r9, r10, r11, r12, r13, r14, r15, r16, r17, r60, r61, r62, r63, r64, r65, r66, r18, r19, r20, r21, r22, r23, r24, r25, r26, r27, r28, r29, r30, r31, r67, r68], [(1, "LETTERS", (.str "abcdefghijklmnopqrstuvwxyz")), (0, "WORDS", (.tup ["arg", "ask", "field", "manner", "refuse", "rule", "set", "sum", "sweep", "tell", "when"])), (2, "REFUSE", (.str "refuse")), (7, "ARG", (.str "arg")), (6, "SUM", (.str "sum")), (4, "WHOLE", (.str "whole")), (5, "PART", (.str "part")), (3, "MOST_VIEWS", (.int 24))]⟩
theorem ds_eq : tb.ds = ds := tb.ds_look.trans rfl
theorem cs_eq : tb.cs = cs := tb.cs_look.trans rfl
theorem bnd : ∀ r ∈ tb.rows, BindsP r := by
  refine List.forall_mem_cons.mpr ⟨?b0, List.forall_mem_cons.mpr ⟨?b1, List.forall_mem_cons.mpr ⟨?b2, List.forall_mem_cons.mpr ⟨?b3, List.forall_mem_cons.mpr ⟨?b4, List.forall_mem_cons.mpr ⟨?b5, List.forall_mem_cons.mpr ⟨?b6, List.forall_mem_cons.mpr ⟨?b7, List.forall_mem_cons.mpr ⟨?b8, List.forall_mem_cons.mpr ⟨?b9, List.forall_mem_cons.mpr ⟨?b10, List.forall_mem_cons.mpr ⟨?b11, List.forall_mem_cons.mpr ⟨?b12, List.forall_mem_cons.mpr ⟨?b13, List.forall_mem_cons.mpr ⟨?b14, List.forall_mem_cons.mpr ⟨?b15, List.forall_mem_cons.mpr ⟨?b16, List.forall_mem_cons.mpr ⟨?b17, List.forall_mem_cons.mpr ⟨?b60, List.forall_mem_cons.mpr ⟨?b61, List.forall_mem_cons.mpr ⟨?b62, List.forall_mem_cons.mpr ⟨?b63, List.forall_mem_cons.mpr ⟨?b64, List.forall_mem_cons.mpr ⟨?b65, List.forall_mem_cons.mpr ⟨?b66, List.forall_mem_cons.mpr ⟨?b18, List.forall_mem_cons.mpr ⟨?b19, List.forall_mem_cons.mpr ⟨?b20, List.forall_mem_cons.mpr ⟨?b21, List.forall_mem_cons.mpr ⟨?b22, List.forall_mem_cons.mpr ⟨?b23, List.forall_mem_cons.mpr ⟨?b24, List.forall_mem_cons.mpr ⟨?b25, List.forall_mem_cons.mpr ⟨?b26, List.forall_mem_cons.mpr ⟨?b27, List.forall_mem_cons.mpr ⟨?b28, List.forall_mem_cons.mpr ⟨?b29, List.forall_mem_cons.mpr ⟨?b30, List.forall_mem_cons.mpr ⟨?b31, List.forall_mem_cons.mpr ⟨?b67, List.forall_mem_cons.mpr ⟨?b68, fun _ h => absurd h List.not_mem_nil⟩⟩⟩⟩⟩⟩⟩⟩⟩⟩⟩⟩⟩⟩⟩⟩⟩⟩⟩⟩⟩⟩⟩⟩⟩⟩⟩⟩⟩⟩⟩⟩⟩⟩⟩⟩⟩⟩⟩⟩⟩
  case b0 => exact fun _ _ _ _ _ _ us hl => match us, hl with | [_, _, _], _ => rfl
  case b1 => exact fun _ _ _ _ _ _ us hl => match us, hl with | [_], _ => rfl
  case b2 => exact fun _ _ _ _ _ _ us hl => match us, hl with | [_, _, _], _ => rfl
  case b3 => exact fun _ _ _ _ _ _ us hl => match us, hl with | [_], _ => rfl
  case b4 => exact fun _ _ _ _ _ _ us hl => match us, hl with | [_], _ => rfl
  case b5 => exact fun _ _ _ _ _ _ us hl => match us, hl with | [_], _ => rfl
  case b6 => exact fun _ _ _ _ _ _ us hl => match us, hl with | [_], _ => rfl
  case b7 => exact fun _ _ _ _ _ _ us hl => match us, hl with | [_], _ => rfl
  case b8 => exact fun _ _ _ _ _ _ us hl => match us, hl with | [_], _ => rfl
  case b9 => exact fun _ _ _ _ _ _ us hl => match us, hl with | [_, _], _ => rfl
  case b10 => exact fun _ _ _ _ _ _ us hl => match us, hl with | [_, _], _ => rfl
  case b11 => exact fun _ _ _ _ _ _ us hl => match us, hl with | [_, _], _ => rfl
  case b12 => exact fun _ _ _ _ _ _ us hl => match us, hl with | [_, _], _ => rfl
  case b13 => exact fun _ _ _ _ _ _ us hl => match us, hl with | [_, _], _ => rfl
  case b14 => exact fun _ _ _ _ _ _ us hl => match us, hl with | [_], _ => rfl
  case b15 => exact fun _ _ _ _ _ _ us hl => match us, hl with | [_, _], _ => rfl
  case b16 => exact fun _ _ _ _ _ _ us hl => match us, hl with | [_, _], _ => rfl
  case b17 => exact fun _ _ _ _ _ _ us hl => match us, hl with | [_], _ => rfl
  case b60 => exact fun _ _ _ _ _ _ us hl => match us, hl with | [_], _ => rfl
  case b61 => exact fun _ _ _ _ _ _ us hl => match us, hl with | [_], _ => rfl
  case b62 => exact fun _ _ _ _ _ _ us hl => match us, hl with | [_, _], _ => rfl
  case b63 => exact fun _ _ _ _ _ _ us hl => match us, hl with | [_, _], _ => rfl
  case b64 => exact fun _ _ _ _ _ _ us hl => match us, hl with | [_], _ => rfl
  case b65 => exact fun _ _ _ _ _ _ us hl => match us, hl with | [_, _], _ => rfl
  case b66 => exact fun _ _ _ _ _ _ us hl => match us, hl with | [_], _ => rfl
  case b18 => exact fun _ _ _ _ _ _ us hl => match us, hl with | [_, _], _ => rfl
  case b19 => exact fun _ _ _ _ _ _ us hl => match us, hl with | [_, _], _ => rfl
  case b20 => exact fun _ _ _ _ _ _ us hl => match us, hl with | [_, _], _ => rfl
  case b21 => exact fun _ _ _ _ _ _ us hl => match us, hl with | [_], _ => rfl
  case b22 => exact fun _ _ _ _ _ _ us hl => match us, hl with | [_], _ => rfl
  case b23 => exact fun _ _ _ _ _ _ us hl => match us, hl with | [_, _], _ => rfl
  case b24 => exact fun _ _ _ _ _ _ us hl => match us, hl with | [_, _], _ => rfl
  case b25 => exact fun _ _ _ _ _ _ us hl => match us, hl with | [_, _, _, _], _ => rfl
  case b26 => exact fun _ _ _ _ _ _ us hl => match us, hl with | [_, _], _ => rfl
  case b27 => exact fun _ _ _ _ _ _ us hl => match us, hl with | [_, _, _], _ => rfl
  case b28 => exact fun _ _ _ _ _ _ us hl => match us, hl with | [_, _, _], _ => rfl
  case b29 => exact fun _ _ _ _ _ _ us hl => match us, hl with | [_], _ => rfl
  case b30 => exact fun _ _ _ _ _ _ us hl => match us, hl with | [_, _], _ => rfl
  case b31 => exact fun _ _ _ _ _ _ us hl => match us, hl with | [_, _, _], _ => rfl
  case b67 => exact fun _ _ _ _ _ _ us hl => match us, hl with | [_, _], _ => rfl
  case b68 => exact fun _ _ _ _ _ _ us hl => match us, hl with | [_], _ => rfl
theorem chk : (tb.rows.all fun r => rowB tb.G r) = true := by decide +kernel
abbrev R : PySem.W.OpenRow := PySem.W.OpenLaw.row PySem.Challenge.rw_wayback_k03_views_of_records
abbrev hk : PySem.W.Hook := hookT 4 tb.fa tb.fn tb.con
def ob (s : PySem.W.SharedT) : AlT := obsTG 4 tb.fa tb.fn tb.con (HandSHeadRun.getT s)
theorem ob_eq (s : PySem.W.SharedT) : ob s = hk.obs s.abs := obsTG_eq (HandSHeadRun.getT_eq s)
def loose : List PySem.Str := [("EditionError" : PySem.Str), ("InvalidRecord" : PySem.Str), ("InvalidEdition" : PySem.Str), ("LETTERS" : PySem.Str), ("WORDS" : PySem.Str), ("REFUSE" : PySem.Str), ("ARG" : PySem.Str), ("SUM" : PySem.Str), ("WHOLE" : PySem.Str), ("PART" : PySem.Str), ("MOST_VIEWS" : PySem.Str), ("is_integer" : PySem.Str), ("is_name" : PySem.Str), ("is_row" : PySem.Str), ("ascends" : PySem.Str), ("is_entry" : PySem.Str), ("is_record" : PySem.Str), ("is_field" : PySem.Str), ("are_fields" : PySem.Str), ("is_manner" : PySem.Str), ("is_operand" : PySem.Str), ("is_term" : PySem.Str), ("is_condition" : PySem.Str), ("is_set" : PySem.Str), ("is_rule" : PySem.Str), ("names_of" : PySem.Str), ("is_ask" : PySem.Str), ("is_sweep" : PySem.Str), ("is_edition" : PySem.Str), ("need_record" : PySem.Str), ("need_edition" : PySem.Str), ("read_value" : PySem.Str), ("read" : PySem.Str), ("empty_view" : PySem.Str), ("view_of" : PySem.Str), ("first_view" : PySem.Str), ("_law_bag" : PySem.Str), ("_law_take" : PySem.Str), ("_law_of" : PySem.Str), ("_law_pool" : PySem.Str), ("_law_asknames" : PySem.Str), ("_law_operand" : PySem.Str), ("_law_term" : PySem.Str), ("_law_rule" : PySem.Str), ("_law_fields" : PySem.Str), ("_law_wild" : PySem.Str), ("_law_tame" : PySem.Str), ("_law_words_of" : PySem.Str), ("_law_elder" : PySem.Str), ("_law_family" : PySem.Str), ("_law_read" : PySem.Str)]
theorem run (w : World) : HandSHeadRun.RunEq R (PySem.W.view R.prog [55]) hk ob 3000 loose w := by
  intro os
  kernel_rfl
end DL.Wk03

namespace DL
open PySem L2
def wAll :=
  And.intro @s_nil <|
  And.intro @s_cons <|
  And.intro @s_asg <|
  And.intro @s_asgT <|
  And.intro @s_par <|
  And.intro @s_put <|
  And.intro @s_app <|
  And.intro @s_pop <|
  And.intro @s_ret <|
  And.intro @s_retN <|
  And.intro @s_ife <|
  And.intro @s_expr <|
  And.intro @s_pass <|
  And.intro @s_brk <|
  And.intro @s_cnt <|
  And.intro @s_never <|
  And.intro @s_frz <|
  And.intro @s_forr <|
  And.intro @s_forB <|
  And.intro @thenO_nx <|
  And.intro @thenO_ret <|
  And.intro @thenO_brk <|
  And.intro @thenO_cnt <|
  And.intro @retO_ret <|
  And.intro @retO_nx <|
  And.intro @retO_brk <|
  And.intro @retO_cnt <|
  And.intro @loopQ_nx <|
  And.intro @loopQ_ret <|
  And.intro @loopQ_brk <|
  And.intro @loopQ_cnt <|
  And.intro @w_var <|
  And.intro @w_glob <|
  And.intro @w_non <|
  And.intro @w_bl <|
  And.intro @w_int <|
  And.intro @w_str <|
  And.intro @w_tup <|
  And.intro @w_lst <|
  And.intro @w_cel <|
  And.intro @w_bop <|
  And.intro @w_cop <|
  And.intro @w_chn <|
  And.intro @w_neg <|
  And.intro @w_and <|
  And.intro @w_or <|
  And.intro @w_not <|
  And.intro @w_ite <|
  And.intro @w_sub <|
  And.intro @w_slc <|
  And.intro @w_rev <|
  And.intro @w_call <|
  And.intro @w_isi <|
  And.intro @w_bi <|
  And.intro @w_me <|
  And.intro @w_get2 <|
  And.intro @w_sset <|
  And.intro @w_min1 <|
  And.intro @w_sitm <|
  And.intro @w_dset <|
  And.intro @w_dnew <|
  And.intro @w_lc <|
  And.intro @w_lc2 <|
  And.intro @w_dc <|
  And.intro @w_xnil <|
  And.intro @w_xcons <|
  And.intro @w_enil <|
  And.intro @w_econs <|
  And.intro @w_ono <|
  And.intro @w_oyes <|
  And.intro @w_cno <|
  And.intro @w_cyes <|
  And.intro @w_iseq <|
  And.intro @w_irng <|
  And.intro @w_irng2 <|
  And.intro @w_izip <|
  And.intro @w_ienm <|
  And.intro @WP_some <|
  And.intro @op1_some <|
  And.intro @op1_none <|
  And.intro @op1_map <|
  And.intro @op1_if <|
  And.intro @asB_b <|
  And.intro @asI_i <|
  And.intro @asF_sv <|
  And.intro @asF_new <|
  And.intro @asD_val <|
  And.intro @asFr_val <|
  And.intro @asFr_cell <|
  And.intro @asFr_dct <|
  And.intro @slotV_own <|
  And.intro @slotV_val <|
  And.intro @slotV_cell <|
  And.intro @slotV_dct <|
  And.intro @slotV_scr <|
  And.intro @slotR_sv <|
  And.intro @slotR_new <|
  And.intro @asgT_nm <|
  And.intro @asgT_tp <|
  And.intro @asgT_tq <|
  And.intro @sa_nil <|
  And.intro @sa_cons <|
  And.intro @o_instr2 <|
  And.intro @o_notin2 <|
  And.intro @o_instr2l <|
  And.intro @o_notin2l <|
  And.intro @t_0 <|
  And.intro @t_1 <|
  And.intro @t_2 <|
  And.intro @t_3 <|
  And.intro @t_4 <|
  And.intro @o_notinl <|
  And.intro @o_notinn <|
  And.intro @o_nei <|
  And.intro @o_eqi <|
  And.intro @o_eqnil <|
  And.intro @o_nenil <|
  And.intro @l_0 <|
  And.intro @l_1 <|
  And.intro @l_2 <|
  And.intro @l_3 <|
  And.intro @l_4 <|
  And.intro @l_5 <|
  And.intro @l_6 <|
  And.intro @l_7 <|
  And.intro @l_8 <|
  And.intro @l_9 <|
  And.intro @l_10 <|
  And.intro @l_11 <|
  And.intro @l_12 <|
  And.intro @l_13 <|
  And.intro @l_14 <|
  And.intro @l_15 <|
  And.intro @l_16 <|
  And.intro @l_17 <|
  And.intro @l_18 <|
  And.intro @l_19 <|
  And.intro @l_20 <|
  And.intro @o_eqb <|
  And.intro @o_neb <|
  And.intro @o_subsc <|
  And.intro @o_isi_i <|
  And.intro @o_isi_b <|
  And.intro @o_isi_l <|
  And.intro @ty_tup <|
  And.intro @ty_str <|
  And.intro @isTup_none <|
  And.intro @isStr_none <|
  And.intro @isTup_bool <|
  And.intro @isStr_bool <|
  And.intro @isTup_int <|
  And.intro @isStr_int <|
  And.intro @isTup_str <|
  And.intro @isStr_str <|
  And.intro @isTup_list <|
  And.intro @isStr_list <|
  And.intro @isTup_tuple <|
  And.intro @isStr_tuple <|
  And.intro @isTup_dict <|
  And.intro @isStr_dict <|
  And.intro @o_add <|
  And.intro @o_adds <|
  And.intro @o_addt <|
  And.intro @o_sub <|
  And.intro @o_mul <|
  And.intro @o_div <|
  And.intro @o_mod <|
  And.intro @o_pow <|
  And.intro @o_le <|
  And.intro @o_lt <|
  And.intro @o_gt <|
  And.intro @o_ge <|
  And.intro @o_lts <|
  And.intro @o_les <|
  And.intro @o_isNon <|
  And.intro @o_notNon <|
  And.intro @o_len <|
  And.intro @o_lenl <|
  And.intro @o_lenn <|
  And.intro @o_lenb <|
  And.intro @o_lens <|
  And.intro @o_lensc <|
  And.intro @o_int <|
  And.intro @o_tup <|
  And.intro @o_tupn <|
  And.intro @o_tupt <|
  And.intro @o_lst <|
  And.intro @o_lstl <|
  And.intro @o_max <|
  And.intro @o_min <|
  And.intro @o_all <|
  And.intro @o_subt <|
  And.intro @o_subl <|
  And.intro @o_slct <|
  And.intro @o_slcl <|
  And.intro @o_seqt <|
  And.intro @o_seql <|
  And.intro @o_seqs <|
  And.intro @v_nil <|
  And.intro @v_cons <|
  And.intro @o_inc <|
  And.intro @o_notinc <|
  And.intro @ty_int_none <|
  And.intro @ty_int_bool <|
  And.intro @ty_int_int <|
  And.intro @ty_int_str <|
  And.intro @ty_int_list <|
  And.intro @ty_int_tuple <|
  And.intro @ty_int_dict <|
  And.intro @ty_str_none <|
  And.intro @ty_str_bool <|
  And.intro @ty_str_int <|
  And.intro @ty_str_str <|
  And.intro @ty_str_list <|
  And.intro @ty_str_tuple <|
  And.intro @ty_str_dict <|
  And.intro @ty_tuple_none <|
  And.intro @ty_tuple_bool <|
  And.intro @ty_tuple_int <|
  And.intro @ty_tuple_str <|
  And.intro @ty_tuple_list <|
  And.intro @ty_tuple_tuple <|
  And.intro @ty_tuple_dict <|
  And.intro @ty_list_none <|
  And.intro @ty_list_bool <|
  And.intro @ty_list_int <|
  And.intro @ty_list_str <|
  And.intro @ty_list_list <|
  And.intro @ty_list_tuple <|
  And.intro @ty_list_dict <|
  And.intro @ty_bool_none <|
  And.intro @ty_bool_bool <|
  And.intro @ty_bool_int <|
  And.intro @ty_bool_str <|
  And.intro @ty_bool_list <|
  And.intro @ty_bool_tuple <|
  And.intro @ty_bool_dict <|
  And.intro @qa <|
  And.intro @qn <|
  And.intro @qo <|
  And.intro @o_instr <|
  And.intro @o_instrl <|
  And.intro @o_instrn <|
  And.intro @o_eqs <|
  @o_nes
end DL

namespace DL.Wk03
open PySem L2 DL
def isInt (d : PyData) (lo hi : Int) : Bool := match d with
  | .int i => decide (lo ≤ i) && decide (i ≤ hi)
  | _ => false
theorem s0 {k : Nat} {d : PyData} {lo hi : Int} {S : Store} {Q : SV → Store → Prop} : WP (C (k + 1) 0 [.val d, .val (.int lo), .val (.int hi)] S) Q ↔ Q (.val (.bool (isInt d lo hi))) S := by
  rw [u0]
  cases d <;> simp only [isInt] <;> (try simp only [wAll, wpLc, wipeS, zipS, enmS, OV.fz, reduceIte, List.getElem?_cons_zero, List.getElem?_cons_succ, List.set_cons_zero, List.set_cons_succ, Option.map_some, Option.map_none, if_true, if_false, Bool.false_eq_true, ite_true, ite_false, Bool.not_true, Bool.not_false, true_and, and_true, exists_eq_left, Bool.true_and, Bool.and_true, Bool.false_and, Bool.and_false, Bool.true_or, Bool.false_or, Bool.or_true, Bool.or_false])
def wordsL : List Str := ["arg", "ask", "field", "manner", "refuse", "rule", "set", "sum", "sweep", "tell", "when"]
def lettersL : List Nat := ("abcdefghijklmnopqrstuvwxyz" : Str).cps.toList
theorem c0w : cs 0 = some (.tuple (wordsL.map .str)) := rfl
def isNm (d : PyData) : Bool := match d with
  | .str x => (decide (1 ≤ x.length) && decide (x.length ≤ 8)) && (!decide (x ∈ wordsL) && x.cps.toList.all fun c => decide (c ∈ lettersL))
  | _ => false
theorem lc_in {k : Nat} {v : SV} {x : Str} {S : Store} {Q : List PyData → Store → Prop} : WP (lcGo (lcS (Ek k) [some v, none] (Ex.cop COp.isin (Ex.var 1) (Ex.glob 1)) (Tg.nm 1) Exo.no [1]) (List.map strD x.cps.toList) S) Q ↔
    Q (x.cps.toList.map fun c => .bool (decide (c ∈ lettersL))) S := by
  rw [lc_map (fun d => match d with | .str z => .bool (decide (z.cps.getD 0 0 ∈ lettersL)) | _ => .none)]
  · rw [List.map_map]; rfl
  · intro d hd
    obtain ⟨c, _, rfl⟩ := List.mem_map.mp hd
    (try simp only [wAll, wpLc, wipeS, zipS, enmS, OV.fz, reduceIte, List.getElem?_cons_zero, List.getElem?_cons_succ, List.set_cons_zero, List.set_cons_succ, Option.map_some, Option.map_none, if_true, if_false, Bool.false_eq_true, ite_true, ite_false, Bool.not_true, Bool.not_false, true_and, and_true, exists_eq_left, Bool.true_and, Bool.and_true, Bool.false_and, Bool.and_false, Bool.true_or, Bool.false_or, Bool.or_true, Bool.or_false])
    rw [c1]
    (try simp only [wAll, wpLc, wipeS, zipS, enmS, OV.fz, reduceIte, List.getElem?_cons_zero, List.getElem?_cons_succ, List.set_cons_zero, List.set_cons_succ, Option.map_some, Option.map_none, if_true, if_false, Bool.false_eq_true, ite_true, ite_false, Bool.not_true, Bool.not_false, true_and, and_true, exists_eq_left, Bool.true_and, Bool.and_true, Bool.false_and, Bool.and_false, Bool.true_or, Bool.false_or, Bool.or_true, Bool.or_false])
    rfl
theorem allB {α : Type} {f : α → Bool} {ds : List α} : biS .all [.new (.lst (ds.map fun x => .bool (f x)))] = some (.sv (.val (.bool (ds.all f)))) := by
  show (match boolsD (ds.map fun x => .bool (f x)) with | some bs => vB (bs.all id) | none => none) = _
  rw [boolsD_map]
  simp [List.all_map]
theorem s1 {k : Nat} {d : PyData} {S : Store} {Q : SV → Store → Prop} : WP (C (k + 1) 1 [.val d] S) Q ↔ Q (.val (.bool (isNm d))) S := by
  rw [u1]
  cases d <;> simp only [isNm] <;> (try simp only [wAll, wpLc, wipeS, zipS, enmS, OV.fz, reduceIte, List.getElem?_cons_zero, List.getElem?_cons_succ, List.set_cons_zero, List.set_cons_succ, Option.map_some, Option.map_none, if_true, if_false, Bool.false_eq_true, ite_true, ite_false, Bool.not_true, Bool.not_false, true_and, and_true, exists_eq_left, Bool.true_and, Bool.and_true, Bool.false_and, Bool.and_false, Bool.true_or, Bool.false_or, Bool.or_true, Bool.or_false])
  rename_i x
  simp only [c0w, lc_in, allB]
  (try simp only [wAll, wpLc, wipeS, zipS, enmS, OV.fz, reduceIte, List.getElem?_cons_zero, List.getElem?_cons_succ, List.set_cons_zero, List.set_cons_succ, Option.map_some, Option.map_none, if_true, if_false, Bool.false_eq_true, ite_true, ite_false, Bool.not_true, Bool.not_false, true_and, and_true, exists_eq_left, Bool.true_and, Bool.and_true, Bool.false_and, Bool.and_false, Bool.true_or, Bool.false_or, Bool.or_true, Bool.or_false])
  have e : ∀ m n : Nat, decide ((m : Int) ≤ (n : Int)) = decide (m ≤ n) := fun m n => by simp
  rw [show decide ((1 : Int) ≤ (x.length : Int)) = decide (1 ≤ x.length) from e 1 _, show decide ((x.length : Int) ≤ (8 : Int)) = decide (x.length ≤ 8) from e _ 8]
  cases decide (1 ≤ x.length) <;> cases decide (x.length ≤ 8) <;> simp

def isRow (d : PyData) (lo hi : Int) : Bool := match d with
  | .tuple ds => decide (lo ≤ ds.length) && decide ((ds.length : Int) ≤ hi)
  | _ => false
def itms (d : PyData) : List PyData := match d with
  | .tuple ds => ds
  | _ => []
def itm (d : PyData) (i : Nat) : PyData := (itms d).getD i .none
theorem isRow_tup {d : PyData} {lo hi : Int} (h : isRow d lo hi = true) : d = .tuple (itms d) ∧ lo ≤ (itms d).length ∧ ((itms d).length : Int) ≤ hi := by
  cases d with
  | tuple ds =>
    simp only [isRow, Bool.and_eq_true, decide_eq_true_eq] at h
    exact ⟨rfl, h.1, h.2⟩
  | _ => cases h
theorem s2 {k : Nat} {d : PyData} {lo hi : Int} {S : Store} {Q : SV → Store → Prop} : WP (C (k + 1) 2 [.val d, .val (.int lo), .val (.int hi)] S) Q ↔ Q (.val (.bool (isRow d lo hi))) S := by
  rw [u2]
  cases d <;> simp only [isRow] <;> (try simp only [wAll, wpLc, wipeS, zipS, enmS, OV.fz, reduceIte, List.getElem?_cons_zero, List.getElem?_cons_succ, List.set_cons_zero, List.set_cons_succ, Option.map_some, Option.map_none, if_true, if_false, Bool.false_eq_true, ite_true, ite_false, Bool.not_true, Bool.not_false, true_and, and_true, exists_eq_left, Bool.true_and, Bool.and_true, Bool.false_and, Bool.and_false, Bool.true_or, Bool.false_or, Bool.or_true, Bool.or_false])
theorem atI_get {ds : List PyData} {i : Int} {j : Nat} (h : i = (j : Int)) (hl : j < ds.length) : atI ds i = some (ds.getD j .none) := by
  subst h
  unfold atI ixN
  rw [if_pos (by omega), if_pos (by omega)]
  simp [List.getD_eq_getElem?_getD, List.getElem?_eq_getElem hl]
theorem sub_itm {d : PyData} {S : Store} {i : Int} (j : Nat) (h : i = (j : Int)) (hd : d = .tuple (itms d)) (hl : j < (itms d).length) : subS S (.sv (.val d)) (.sv (.val (.int i))) = some (.sv (.val (itm d j))) := by
  rw [hd, o_subt, atI_get h hl]
  rfl
/-- items of a row -/
theorem row_sub {d : PyData} {lo hi : Int} (h : isRow d lo hi = true) (S : Store) (j : Nat) (i : Int) (hi : i = (j : Int)) (hj : (j : Int) < lo) : subS S (.sv (.val d)) (.sv (.val (.int i))) = some (.sv (.val (itm d j))) := by
  obtain ⟨h1, h2, h3⟩ := isRow_tup h
  exact sub_itm j hi h1 (by omega)
theorem row_sub0 {d : PyData} {lo hi : Int} (h : isRow d lo hi = true) (S : Store) (hj : 0 < lo := by decide) : subS S (.sv (.val d)) (.sv (.val (.int 0))) = some (.sv (.val (itm d 0))) := row_sub h S 0 0 rfl hj
theorem row_sub1 {d : PyData} {lo hi : Int} (h : isRow d lo hi = true) (S : Store) (hj : 1 < lo := by decide) : subS S (.sv (.val d)) (.sv (.val (.int 1))) = some (.sv (.val (itm d 1))) := row_sub h S 1 1 rfl hj
theorem row_sub2 {d : PyData} {lo hi : Int} (h : isRow d lo hi = true) (S : Store) (hj : 2 < lo := by decide) : subS S (.sv (.val d)) (.sv (.val (.int 2))) = some (.sv (.val (itm d 2))) := row_sub h S 2 2 rfl hj
theorem row_sub3 {d : PyData} {lo hi : Int} (h : isRow d lo hi = true) (S : Store) (hj : 3 < lo := by decide) : subS S (.sv (.val d)) (.sv (.val (.int 3))) = some (.sv (.val (itm d 3))) := row_sub h S 3 3 rfl hj
def strOf (d : PyData) : Str := match d with
  | .str x => x
  | _ => Str.empty
def intOf (d : PyData) : Int := match d with
  | .int i => i
  | _ => 0
theorem isNm_str {d : PyData} (h : isNm d = true) : d = .str (strOf d) := by
  cases d with
  | str x => rfl
  | _ => cases h
theorem isInt_int {d : PyData} {lo hi : Int} (h : isInt d lo hi = true) : d = .int (intOf d) ∧ lo ≤ intOf d ∧ intOf d ≤ hi := by
  cases d with
  | int i =>
    simp only [isInt, Bool.and_eq_true, decide_eq_true_eq] at h
    exact ⟨rfl, h.1, h.2⟩
  | _ => cases h
def asc (xs : List Str) : Bool := (xs.zip (xs.drop 1)).all fun p => ltS p.1 p.2
theorem zipD_map {α β : Type} (f : α → PyData) (g : β → PyData) : ∀ (xs : List α) (ys : List β), zipD (xs.map f) (ys.map g) = (xs.zip ys).map fun p => .tuple [f p.1, g p.2] := by
  intro xs ys
  unfold zipD
  rw [List.zip_map, List.map_map]
  rfl
theorem cut1 {α : Type} (xs : List α) : cutD xs (some 1) none = xs.drop 1 := by
  unfold cutD
  rw [HT.sIx_none, show (1 : Int) = ((1 : Nat) : Int) from rfl, HT.sIx_nat]
  rcases Nat.lt_or_ge xs.length 1 with h | h
  · have : xs = [] := List.length_eq_zero_iff.mp (by omega)
    subst this; rfl
  · rw [Nat.min_eq_left h, List.take_of_length_le (by rw [List.length_drop]; omega)]
theorem s3 {k : Nat} {xs : List Str} {S : Store} {Q : SV → Store → Prop} : WP (C (k + 1) 3 [.val (.list (xs.map .str))] S) Q ↔ Q (.val (.bool (asc xs))) S := by
  rw [u3]
  (try simp only [wAll, wpLc, wipeS, zipS, enmS, OV.fz, reduceIte, List.getElem?_cons_zero, List.getElem?_cons_succ, List.set_cons_zero, List.set_cons_succ, Option.map_some, Option.map_none, if_true, if_false, Bool.false_eq_true, ite_true, ite_false, Bool.not_true, Bool.not_false, true_and, and_true, exists_eq_left, Bool.true_and, Bool.and_true, Bool.false_and, Bool.and_false, Bool.true_or, Bool.false_or, Bool.or_true, Bool.or_false])
  rw [cut1, ← List.map_drop, zipD_map, lc_map (fun d => .bool (ltS (strOf (itm d 0)) (strOf (itm d 1))))]
  · rw [List.map_map, show ((fun d => PyData.bool (ltS (strOf (itm d 0)) (strOf (itm d 1)))) ∘ fun (p : Str × Str) => PyData.tuple [PyData.str p.1, PyData.str p.2]) = fun p => .bool (ltS p.1 p.2) from rfl, allB]
    (try simp only [wAll, wpLc, wipeS, zipS, enmS, OV.fz, reduceIte, List.getElem?_cons_zero, List.getElem?_cons_succ, List.set_cons_zero, List.set_cons_succ, Option.map_some, Option.map_none, if_true, if_false, Bool.false_eq_true, ite_true, ite_false, Bool.not_true, Bool.not_false, true_and, and_true, exists_eq_left, Bool.true_and, Bool.and_true, Bool.false_and, Bool.and_false, Bool.true_or, Bool.false_or, Bool.or_true, Bool.or_false])
    rfl
  · intro d hd
    obtain ⟨p, _, rfl⟩ := List.mem_map.mp hd
    (try simp only [wAll, wpLc, wipeS, zipS, enmS, OV.fz, reduceIte, List.getElem?_cons_zero, List.getElem?_cons_succ, List.set_cons_zero, List.set_cons_succ, Option.map_some, Option.map_none, if_true, if_false, Bool.false_eq_true, ite_true, ite_false, Bool.not_true, Bool.not_false, true_and, and_true, exists_eq_left, Bool.true_and, Bool.and_true, Bool.false_and, Bool.and_false, Bool.true_or, Bool.false_or, Bool.or_true, Bool.or_false])
    rfl
def isEntry (d : PyData) : Bool := isRow d 2 2 && (isNm (itm d 0) && isInt (itm d 1) 0 3)
theorem s4 {k : Nat} {d : PyData} {S : Store} {Q : SV → Store → Prop} : WP (C (k + 2) 4 [.val d] S) Q ↔ Q (.val (.bool (isEntry d))) S := by
  rw [u4]
  (try simp only [wAll, wpLc, wipeS, zipS, enmS, OV.fz, reduceIte, List.getElem?_cons_zero, List.getElem?_cons_succ, List.set_cons_zero, List.set_cons_succ, Option.map_some, Option.map_none, if_true, if_false, Bool.false_eq_true, ite_true, ite_false, Bool.not_true, Bool.not_false, true_and, and_true, exists_eq_left, Bool.true_and, Bool.and_true, Bool.false_and, Bool.and_false, Bool.true_or, Bool.false_or, Bool.or_true, Bool.or_false])
  simp only [s2, isEntry]
  by_cases h : isRow d 2 2 = true
  · simp only [h, row_sub0 h, row_sub1 h]
    (try simp only [wAll, wpLc, wipeS, zipS, enmS, OV.fz, reduceIte, List.getElem?_cons_zero, List.getElem?_cons_succ, List.set_cons_zero, List.set_cons_succ, Option.map_some, Option.map_none, if_true, if_false, Bool.false_eq_true, ite_true, ite_false, Bool.not_true, Bool.not_false, true_and, and_true, exists_eq_left, Bool.true_and, Bool.and_true, Bool.false_and, Bool.and_false, Bool.true_or, Bool.false_or, Bool.or_true, Bool.or_false])
    simp only [s1, s0]
    (try simp only [wAll, wpLc, wipeS, zipS, enmS, OV.fz, reduceIte, List.getElem?_cons_zero, List.getElem?_cons_succ, List.set_cons_zero, List.set_cons_succ, Option.map_some, Option.map_none, if_true, if_false, Bool.false_eq_true, ite_true, ite_false, Bool.not_true, Bool.not_false, true_and, and_true, exists_eq_left, Bool.true_and, Bool.and_true, Bool.false_and, Bool.and_false, Bool.true_or, Bool.false_or, Bool.or_true, Bool.or_false])
  · simp only [h]
    (try simp only [wAll, wpLc, wipeS, zipS, enmS, OV.fz, reduceIte, List.getElem?_cons_zero, List.getElem?_cons_succ, List.set_cons_zero, List.set_cons_succ, Option.map_some, Option.map_none, if_true, if_false, Bool.false_eq_true, ite_true, ite_false, Bool.not_true, Bool.not_false, true_and, and_true, exists_eq_left, Bool.true_and, Bool.and_true, Bool.false_and, Bool.and_false, Bool.true_or, Bool.false_or, Bool.or_true, Bool.or_false])
/-- a test of each item -/
theorem lc_call {k f : Nat} {p : PyData → Bool} (hf : ∀ (d : PyData) (S : Store) (Q : SV → Store → Prop), WP (C k f [.val d] S) Q ↔ Q (.val (.bool (p d))) S) {sl : Slots} {i : Nat} {ds : List PyData} {S : Store} {Q : List PyData → Store → Prop} (hi : i < sl.length) :
    WP (lcGo (lcS (Ek k) sl (.call f (.cons (.var i) .nil)) (.nm i) .no [i]) ds S) Q ↔ Q (ds.map fun d => .bool (p d)) S := by
  refine lc_map (fun d => .bool (p d)) fun d _ => ?_
  unfold wpLc wipeS wipeS
  (try simp only [wAll, wpLc, wipeS, zipS, enmS, OV.fz, reduceIte, List.getElem?_cons_zero, List.getElem?_cons_succ, List.set_cons_zero, List.set_cons_succ, Option.map_some, Option.map_none, if_true, if_false, Bool.false_eq_true, ite_true, ite_false, Bool.not_true, Bool.not_false, true_and, and_true, exists_eq_left, Bool.true_and, Bool.and_true, Bool.false_and, Bool.and_false, Bool.true_or, Bool.false_or, Bool.or_true, Bool.or_false])
  rw [List.set_set, List.getElem?_set_self (by simpa using hi)]
  (try simp only [wAll, wpLc, wipeS, zipS, enmS, OV.fz, reduceIte, List.getElem?_cons_zero, List.getElem?_cons_succ, List.set_cons_zero, List.set_cons_succ, Option.map_some, Option.map_none, if_true, if_false, Bool.false_eq_true, ite_true, ite_false, Bool.not_true, Bool.not_false, true_and, and_true, exists_eq_left, Bool.true_and, Bool.and_true, Bool.false_and, Bool.and_false, Bool.true_or, Bool.false_or, Bool.or_true, Bool.or_false])
  rw [hf]
  (try simp only [wAll, wpLc, wipeS, zipS, enmS, OV.fz, reduceIte, List.getElem?_cons_zero, List.getElem?_cons_succ, List.set_cons_zero, List.set_cons_succ, Option.map_some, Option.map_none, if_true, if_false, Bool.false_eq_true, ite_true, ite_false, Bool.not_true, Bool.not_false, true_and, and_true, exists_eq_left, Bool.true_and, Bool.and_true, Bool.false_and, Bool.and_false, Bool.true_or, Bool.false_or, Bool.or_true, Bool.or_false])
/-- the items' first items -/
theorem lc_fst {E : Ev} {sl : Slots} {i : Nat} {ds : List PyData} {S : Store} {Q : List PyData → Store → Prop} (hi : i < sl.length) (h : ∀ d ∈ ds, ∃ x r, d = .tuple (.str x :: r)) :
    WP (lcGo (lcS E sl (.sub (.var i) (.int 0)) (.nm i) .no [i]) ds S) Q ↔ Q ((ds.map fun d => strOf (itm d 0)).map .str) S := by
  rw [List.map_map]
  refine lc_map (fun d => .str (strOf (itm d 0))) fun d hd => ?_
  obtain ⟨x, r, rfl⟩ := h d hd
  unfold wpLc wipeS wipeS
  (try simp only [wAll, wpLc, wipeS, zipS, enmS, OV.fz, reduceIte, List.getElem?_cons_zero, List.getElem?_cons_succ, List.set_cons_zero, List.set_cons_succ, Option.map_some, Option.map_none, if_true, if_false, Bool.false_eq_true, ite_true, ite_false, Bool.not_true, Bool.not_false, true_and, and_true, exists_eq_left, Bool.true_and, Bool.and_true, Bool.false_and, Bool.and_false, Bool.true_or, Bool.false_or, Bool.or_true, Bool.or_false])
  rw [List.set_set, List.getElem?_set_self (by simpa using hi)]
  (try simp only [wAll, wpLc, wipeS, zipS, enmS, OV.fz, reduceIte, List.getElem?_cons_zero, List.getElem?_cons_succ, List.set_cons_zero, List.set_cons_succ, Option.map_some, Option.map_none, if_true, if_false, Bool.false_eq_true, ite_true, ite_false, Bool.not_true, Bool.not_false, true_and, and_true, exists_eq_left, Bool.true_and, Bool.and_true, Bool.false_and, Bool.and_false, Bool.true_or, Bool.false_or, Bool.or_true, Bool.or_false])
  rw [atI_get (i := 0) (j := 0) rfl (by simp)]
  (try simp only [wAll, wpLc, wipeS, zipS, enmS, OV.fz, reduceIte, List.getElem?_cons_zero, List.getElem?_cons_succ, List.set_cons_zero, List.set_cons_succ, Option.map_some, Option.map_none, if_true, if_false, Bool.false_eq_true, ite_true, ite_false, Bool.not_true, Bool.not_false, true_and, and_true, exists_eq_left, Bool.true_and, Bool.and_true, Bool.false_and, Bool.and_false, Bool.true_or, Bool.false_or, Bool.or_true, Bool.or_false])
  rfl
def fsts (ds : List PyData) : List Str := ds.map fun d => strOf (itm d 0)
def isRec (d : PyData) : Bool := isRow d 0 8 && ((itms d).all isEntry && asc (fsts (itms d)))
theorem row_fst {d : PyData} {lo hi : Int} (h : isRow d lo hi = true) (h0 : 0 < lo) (hn : isNm (itm d 0) = true) : ∃ x r, d = .tuple (.str x :: r) := by
  obtain ⟨h1, h2, h3⟩ := isRow_tup h
  cases e : itms d with
  | nil => rw [e] at h2; simp at h2; omega
  | cons a r =>
    rw [e] at h1
    have : itm d 0 = a := by unfold itm; rw [e]; rfl
    rw [this] at hn
    rw [isNm_str hn] at h1
    exact ⟨_, r, h1⟩
theorem entry_fst {d : PyData} (h : isEntry d = true) : ∃ x r, d = .tuple (.str x :: r) := by
  unfold isEntry at h
  simp only [Bool.and_eq_true] at h
  exact row_fst h.1 (by decide) h.2.1
theorem seq_row {d : PyData} {lo hi : Int} (h : isRow d lo hi = true) : seqD (.val d) = some (itms d) := by
  rw [(isRow_tup h).1]; rfl
theorem s5 {k : Nat} {d : PyData} {S : Store} {Q : SV → Store → Prop} : WP (C (k + 3) 5 [.val d] S) Q ↔ Q (.val (.bool (isRec d))) S := by
  rw [u5]
  (try simp only [wAll, wpLc, wipeS, zipS, enmS, OV.fz, reduceIte, List.getElem?_cons_zero, List.getElem?_cons_succ, List.set_cons_zero, List.set_cons_succ, Option.map_some, Option.map_none, if_true, if_false, Bool.false_eq_true, ite_true, ite_false, Bool.not_true, Bool.not_false, true_and, and_true, exists_eq_left, Bool.true_and, Bool.and_true, Bool.false_and, Bool.and_false, Bool.true_or, Bool.false_or, Bool.or_true, Bool.or_false])
  simp only [s2, isRec]
  by_cases h : isRow d 0 8 = true
  · simp only [h, seq_row h]
    (try simp only [wAll, wpLc, wipeS, zipS, enmS, OV.fz, reduceIte, List.getElem?_cons_zero, List.getElem?_cons_succ, List.set_cons_zero, List.set_cons_succ, Option.map_some, Option.map_none, if_true, if_false, Bool.false_eq_true, ite_true, ite_false, Bool.not_true, Bool.not_false, true_and, and_true, exists_eq_left, Bool.true_and, Bool.and_true, Bool.false_and, Bool.and_false, Bool.true_or, Bool.false_or, Bool.or_true, Bool.or_false])
    simp only [lc_call (k := k + 2) (p := isEntry) (fun _ _ _ => s4) (i := 1) (sl := [some (.val d), none]) (by simp), allB]
    (try simp only [wAll, wpLc, wipeS, zipS, enmS, OV.fz, reduceIte, List.getElem?_cons_zero, List.getElem?_cons_succ, List.set_cons_zero, List.set_cons_succ, Option.map_some, Option.map_none, if_true, if_false, Bool.false_eq_true, ite_true, ite_false, Bool.not_true, Bool.not_false, true_and, and_true, exists_eq_left, Bool.true_and, Bool.and_true, Bool.false_and, Bool.and_false, Bool.true_or, Bool.false_or, Bool.or_true, Bool.or_false])
    by_cases ha : (itms d).all isEntry = true
    · simp only [ha]
      (try simp only [wAll, wpLc, wipeS, zipS, enmS, OV.fz, reduceIte, List.getElem?_cons_zero, List.getElem?_cons_succ, List.set_cons_zero, List.set_cons_succ, Option.map_some, Option.map_none, if_true, if_false, Bool.false_eq_true, ite_true, ite_false, Bool.not_true, Bool.not_false, true_and, and_true, exists_eq_left, Bool.true_and, Bool.and_true, Bool.false_and, Bool.and_false, Bool.true_or, Bool.false_or, Bool.or_true, Bool.or_false])
      rw [lc_fst (by simp) fun e he => entry_fst (List.all_eq_true.mp ha e he)]
      (try simp only [wAll, wpLc, wipeS, zipS, enmS, OV.fz, reduceIte, List.getElem?_cons_zero, List.getElem?_cons_succ, List.set_cons_zero, List.set_cons_succ, Option.map_some, Option.map_none, if_true, if_false, Bool.false_eq_true, ite_true, ite_false, Bool.not_true, Bool.not_false, true_and, and_true, exists_eq_left, Bool.true_and, Bool.and_true, Bool.false_and, Bool.and_false, Bool.true_or, Bool.false_or, Bool.or_true, Bool.or_false])
      simp only [s3]
      (try simp only [wAll, wpLc, wipeS, zipS, enmS, OV.fz, reduceIte, List.getElem?_cons_zero, List.getElem?_cons_succ, List.set_cons_zero, List.set_cons_succ, Option.map_some, Option.map_none, if_true, if_false, Bool.false_eq_true, ite_true, ite_false, Bool.not_true, Bool.not_false, true_and, and_true, exists_eq_left, Bool.true_and, Bool.and_true, Bool.false_and, Bool.and_false, Bool.true_or, Bool.false_or, Bool.or_true, Bool.or_false])
      rfl
    · simp only [ha]
      (try simp only [wAll, wpLc, wipeS, zipS, enmS, OV.fz, reduceIte, List.getElem?_cons_zero, List.getElem?_cons_succ, List.set_cons_zero, List.set_cons_succ, Option.map_some, Option.map_none, if_true, if_false, Bool.false_eq_true, ite_true, ite_false, Bool.not_true, Bool.not_false, true_and, and_true, exists_eq_left, Bool.true_and, Bool.and_true, Bool.false_and, Bool.and_false, Bool.true_or, Bool.false_or, Bool.or_true, Bool.or_false])
  · simp only [h]
    (try simp only [wAll, wpLc, wipeS, zipS, enmS, OV.fz, reduceIte, List.getElem?_cons_zero, List.getElem?_cons_succ, List.set_cons_zero, List.set_cons_succ, Option.map_some, Option.map_none, if_true, if_false, Bool.false_eq_true, ite_true, ite_false, Bool.not_true, Bool.not_false, true_and, and_true, exists_eq_left, Bool.true_and, Bool.and_true, Bool.false_and, Bool.and_false, Bool.true_or, Bool.false_or, Bool.or_true, Bool.or_false])

def isRefuse (d : PyData) : Bool := match d with
  | .str x => decide (x = ("refuse" : Str))
  | _ => false
def isField (d : PyData) : Bool := isRow d 4 4 && ((isNm (itm d 0) && isInt (itm d 1) 2 4) && (isInt (itm d 2) 0 (intOf (itm d 1) - 1) && (isRefuse (itm d 3) || isInt (itm d 3) 0 (intOf (itm d 1) - 1))))
theorem s6 {k : Nat} {d : PyData} {S : Store} {Q : SV → Store → Prop} : WP (C (k + 2) 6 [.val d] S) Q ↔ Q (.val (.bool (isField d))) S := by
  rw [u6]
  (try simp only [wAll, wpLc, wipeS, zipS, enmS, OV.fz, reduceIte, List.getElem?_cons_zero, List.getElem?_cons_succ, List.set_cons_zero, List.set_cons_succ, Option.map_some, Option.map_none, if_true, if_false, Bool.false_eq_true, ite_true, ite_false, Bool.not_true, Bool.not_false, true_and, and_true, exists_eq_left, Bool.true_and, Bool.and_true, Bool.false_and, Bool.and_false, Bool.true_or, Bool.false_or, Bool.or_true, Bool.or_false])
  simp only [s2, isField]
  by_cases h : isRow d 4 4 = true
  · simp only [h, row_sub0 h, row_sub1 h, row_sub2 h, row_sub3 h]
    (try simp only [wAll, wpLc, wipeS, zipS, enmS, OV.fz, reduceIte, List.getElem?_cons_zero, List.getElem?_cons_succ, List.set_cons_zero, List.set_cons_succ, Option.map_some, Option.map_none, if_true, if_false, Bool.false_eq_true, ite_true, ite_false, Bool.not_true, Bool.not_false, true_and, and_true, exists_eq_left, Bool.true_and, Bool.and_true, Bool.false_and, Bool.and_false, Bool.true_or, Bool.false_or, Bool.or_true, Bool.or_false])
    simp only [s1, s0]
    (try simp only [wAll, wpLc, wipeS, zipS, enmS, OV.fz, reduceIte, List.getElem?_cons_zero, List.getElem?_cons_succ, List.set_cons_zero, List.set_cons_succ, Option.map_some, Option.map_none, if_true, if_false, Bool.false_eq_true, ite_true, ite_false, Bool.not_true, Bool.not_false, true_and, and_true, exists_eq_left, Bool.true_and, Bool.and_true, Bool.false_and, Bool.and_false, Bool.true_or, Bool.false_or, Bool.or_true, Bool.or_false])
    by_cases h1 : isNm (itm d 0) = true
    · by_cases h2 : isInt (itm d 1) 2 4 = true
      · obtain ⟨e1, _, _⟩ := isInt_int h2
        simp only [h1, h2]
        (try simp only [wAll, wpLc, wipeS, zipS, enmS, OV.fz, reduceIte, List.getElem?_cons_zero, List.getElem?_cons_succ, List.set_cons_zero, List.set_cons_succ, Option.map_some, Option.map_none, if_true, if_false, Bool.false_eq_true, ite_true, ite_false, Bool.not_true, Bool.not_false, true_and, and_true, exists_eq_left, Bool.true_and, Bool.and_true, Bool.false_and, Bool.and_false, Bool.true_or, Bool.false_or, Bool.or_true, Bool.or_false])
        generalize itm d 1 = n at *
        rw [e1]
        (try simp only [wAll, wpLc, wipeS, zipS, enmS, OV.fz, reduceIte, List.getElem?_cons_zero, List.getElem?_cons_succ, List.set_cons_zero, List.set_cons_succ, Option.map_some, Option.map_none, if_true, if_false, Bool.false_eq_true, ite_true, ite_false, Bool.not_true, Bool.not_false, true_and, and_true, exists_eq_left, Bool.true_and, Bool.and_true, Bool.false_and, Bool.and_false, Bool.true_or, Bool.false_or, Bool.or_true, Bool.or_false])
        simp only [s0]
        (try simp only [wAll, wpLc, wipeS, zipS, enmS, OV.fz, reduceIte, List.getElem?_cons_zero, List.getElem?_cons_succ, List.set_cons_zero, List.set_cons_succ, Option.map_some, Option.map_none, if_true, if_false, Bool.false_eq_true, ite_true, ite_false, Bool.not_true, Bool.not_false, true_and, and_true, exists_eq_left, Bool.true_and, Bool.and_true, Bool.false_and, Bool.and_false, Bool.true_or, Bool.false_or, Bool.or_true, Bool.or_false])
        have e3 : intOf (.int (intOf n)) = intOf n := rfl
        simp only [e3]
        generalize itm d 3 = r
        cases isInt (itm d 2) 0 (intOf n - 1)
        · (try simp only [wAll, wpLc, wipeS, zipS, enmS, OV.fz, reduceIte, List.getElem?_cons_zero, List.getElem?_cons_succ, List.set_cons_zero, List.set_cons_succ, Option.map_some, Option.map_none, if_true, if_false, Bool.false_eq_true, ite_true, ite_false, Bool.not_true, Bool.not_false, true_and, and_true, exists_eq_left, Bool.true_and, Bool.and_true, Bool.false_and, Bool.and_false, Bool.true_or, Bool.false_or, Bool.or_true, Bool.or_false])
        · (try simp only [wAll, wpLc, wipeS, zipS, enmS, OV.fz, reduceIte, List.getElem?_cons_zero, List.getElem?_cons_succ, List.set_cons_zero, List.set_cons_succ, Option.map_some, Option.map_none, if_true, if_false, Bool.false_eq_true, ite_true, ite_false, Bool.not_true, Bool.not_false, true_and, and_true, exists_eq_left, Bool.true_and, Bool.and_true, Bool.false_and, Bool.and_false, Bool.true_or, Bool.false_or, Bool.or_true, Bool.or_false])
          cases r <;> simp only [isRefuse] <;> (try simp only [wAll, wpLc, wipeS, zipS, enmS, OV.fz, reduceIte, List.getElem?_cons_zero, List.getElem?_cons_succ, List.set_cons_zero, List.set_cons_succ, Option.map_some, Option.map_none, if_true, if_false, Bool.false_eq_true, ite_true, ite_false, Bool.not_true, Bool.not_false, true_and, and_true, exists_eq_left, Bool.true_and, Bool.and_true, Bool.false_and, Bool.and_false, Bool.true_or, Bool.false_or, Bool.or_true, Bool.or_false])
          rw [c2]
          (try simp only [wAll, wpLc, wipeS, zipS, enmS, OV.fz, reduceIte, List.getElem?_cons_zero, List.getElem?_cons_succ, List.set_cons_zero, List.set_cons_succ, Option.map_some, Option.map_none, if_true, if_false, Bool.false_eq_true, ite_true, ite_false, Bool.not_true, Bool.not_false, true_and, and_true, exists_eq_left, Bool.true_and, Bool.and_true, Bool.false_and, Bool.and_false, Bool.true_or, Bool.false_or, Bool.or_true, Bool.or_false])
      · simp only [h1, h2]
        (try simp only [wAll, wpLc, wipeS, zipS, enmS, OV.fz, reduceIte, List.getElem?_cons_zero, List.getElem?_cons_succ, List.set_cons_zero, List.set_cons_succ, Option.map_some, Option.map_none, if_true, if_false, Bool.false_eq_true, ite_true, ite_false, Bool.not_true, Bool.not_false, true_and, and_true, exists_eq_left, Bool.true_and, Bool.and_true, Bool.false_and, Bool.and_false, Bool.true_or, Bool.false_or, Bool.or_true, Bool.or_false])
    · simp only [h1]
      (try simp only [wAll, wpLc, wipeS, zipS, enmS, OV.fz, reduceIte, List.getElem?_cons_zero, List.getElem?_cons_succ, List.set_cons_zero, List.set_cons_succ, Option.map_some, Option.map_none, if_true, if_false, Bool.false_eq_true, ite_true, ite_false, Bool.not_true, Bool.not_false, true_and, and_true, exists_eq_left, Bool.true_and, Bool.and_true, Bool.false_and, Bool.and_false, Bool.true_or, Bool.false_or, Bool.or_true, Bool.or_false])
  · simp only [h]
    (try simp only [wAll, wpLc, wipeS, zipS, enmS, OV.fz, reduceIte, List.getElem?_cons_zero, List.getElem?_cons_succ, List.set_cons_zero, List.set_cons_succ, Option.map_some, Option.map_none, if_true, if_false, Bool.false_eq_true, ite_true, ite_false, Bool.not_true, Bool.not_false, true_and, and_true, exists_eq_left, Bool.true_and, Bool.and_true, Bool.false_and, Bool.and_false, Bool.true_or, Bool.false_or, Bool.or_true, Bool.or_false])
def prodL (ds : List PyData) : Int := (ds.map fun d => intOf (itm d 1)).foldl (· * ·) 1
def areFields (d : PyData) : Bool := isRow d 1 3 && ((itms d).all isField && (asc (fsts (itms d)) && decide (prodL (itms d) ≤ 24)))
theorem field_fst {d : PyData} (h : isField d = true) : ∃ x r, d = .tuple (.str x :: r) := by
  unfold isField at h
  simp only [Bool.and_eq_true] at h
  exact row_fst h.1 (by decide) h.2.1.1
theorem field_size {d : PyData} (h : isField d = true) : isRow d 4 4 = true ∧ itm d 1 = .int (intOf (itm d 1)) ∧ 2 ≤ intOf (itm d 1) ∧ intOf (itm d 1) ≤ 4 := by
  unfold isField at h
  simp only [Bool.and_eq_true] at h
  obtain ⟨h1, h2, h3⟩ := isInt_int h.2.1.2
  exact ⟨h.1, h1, h2, h3⟩
theorem prodL_take {ds : List PyData} {i : Nat} {d : PyData} (h : ds[i]? = some d) : prodL (ds.take (i + 1)) = prodL (ds.take i) * intOf (itm d 1) := by
  unfold prodL
  rw [List.take_succ, h]
  simp [List.foldl_append]
/-- the product of the sizes, as a loop counts it -/
theorem s7 {k : Nat} {d : PyData} {S : Store} {Q : SV → Store → Prop} : WP (C (k + 3) 7 [.val d] S) Q ↔ Q (.val (.bool (areFields d))) S := by
  rw [u7]
  (try simp only [wAll, wpLc, wipeS, zipS, enmS, OV.fz, reduceIte, List.getElem?_cons_zero, List.getElem?_cons_succ, List.set_cons_zero, List.set_cons_succ, Option.map_some, Option.map_none, if_true, if_false, Bool.false_eq_true, ite_true, ite_false, Bool.not_true, Bool.not_false, true_and, and_true, exists_eq_left, Bool.true_and, Bool.and_true, Bool.false_and, Bool.and_false, Bool.true_or, Bool.false_or, Bool.or_true, Bool.or_false])
  simp only [s2, areFields]
  by_cases h : isRow d 1 3 = true
  · simp only [h, seq_row h]
    (try simp only [wAll, wpLc, wipeS, zipS, enmS, OV.fz, reduceIte, List.getElem?_cons_zero, List.getElem?_cons_succ, List.set_cons_zero, List.set_cons_succ, Option.map_some, Option.map_none, if_true, if_false, Bool.false_eq_true, ite_true, ite_false, Bool.not_true, Bool.not_false, true_and, and_true, exists_eq_left, Bool.true_and, Bool.and_true, Bool.false_and, Bool.and_false, Bool.true_or, Bool.false_or, Bool.or_true, Bool.or_false])
    simp only [lc_call (k := k + 2) (p := isField) (fun _ _ _ => s6) (i := 1) (sl := [some (.val d), none, none]) (by simp), allB]
    (try simp only [wAll, wpLc, wipeS, zipS, enmS, OV.fz, reduceIte, List.getElem?_cons_zero, List.getElem?_cons_succ, List.set_cons_zero, List.set_cons_succ, Option.map_some, Option.map_none, if_true, if_false, Bool.false_eq_true, ite_true, ite_false, Bool.not_true, Bool.not_false, true_and, and_true, exists_eq_left, Bool.true_and, Bool.and_true, Bool.false_and, Bool.and_false, Bool.true_or, Bool.false_or, Bool.or_true, Bool.or_false])
    by_cases ha : (itms d).all isField = true
    · simp only [ha]
      (try simp only [wAll, wpLc, wipeS, zipS, enmS, OV.fz, reduceIte, List.getElem?_cons_zero, List.getElem?_cons_succ, List.set_cons_zero, List.set_cons_succ, Option.map_some, Option.map_none, if_true, if_false, Bool.false_eq_true, ite_true, ite_false, Bool.not_true, Bool.not_false, true_and, and_true, exists_eq_left, Bool.true_and, Bool.and_true, Bool.false_and, Bool.and_false, Bool.true_or, Bool.false_or, Bool.or_true, Bool.or_false])
      have hf := List.all_eq_true.mp ha
      have hf := List.all_eq_true.mp ha
      have loop := forGo_fold (S := S) (f := forB (Ek (k + 2)) (.nm 1) (.cons (.asg (.nm 2) (.bop .mul (.var 2) (.sub (.var 1) (.int 1)))) .nil)) (fun (a : Option SV × Int) => [some (.val d), a.1, some (.val (.int a.2))]) (fun a e => (some (.val e), a.2 * intOf (itm e 1))) (ds := itms d) (a := (none, 1)) (fun e he a => by
        obtain ⟨h1, h2, h3, h4⟩ := field_size (hf e he)
        (try simp only [wAll, wpLc, wipeS, zipS, enmS, OV.fz, reduceIte, List.getElem?_cons_zero, List.getElem?_cons_succ, List.set_cons_zero, List.set_cons_succ, Option.map_some, Option.map_none, if_true, if_false, Bool.false_eq_true, ite_true, ite_false, Bool.not_true, Bool.not_false, true_and, and_true, exists_eq_left, Bool.true_and, Bool.and_true, Bool.false_and, Bool.and_false, Bool.true_or, Bool.false_or, Bool.or_true, Bool.or_false])
        rw [row_sub1 h1, h2]
        (try simp only [wAll, wpLc, wipeS, zipS, enmS, OV.fz, reduceIte, List.getElem?_cons_zero, List.getElem?_cons_succ, List.set_cons_zero, List.set_cons_succ, Option.map_some, Option.map_none, if_true, if_false, Bool.false_eq_true, ite_true, ite_false, Bool.not_true, Bool.not_false, true_and, and_true, exists_eq_left, Bool.true_and, Bool.and_true, Bool.false_and, Bool.and_false, Bool.true_or, Bool.false_or, Bool.or_true, Bool.or_false])
        exact ⟨.inr ⟨by omega, by omega⟩, rfl⟩)
      have hp : ∀ (ds : List PyData) (z : Option SV) (i : Int), (ds.foldl (fun (a : Option SV × Int) e => (some (.val e), a.2 * intOf (itm e 1))) (z, i)).2 = (ds.map fun d => intOf (itm d 1)).foldl (· * ·) i := by
        intro ds
        induction ds with
        | nil => intro z i; rfl
        | cons e ds ih => intro z i; exact ih _ _
      rw [loop]
      generalize hz : List.foldl (fun (a : Option SV × Int) e => (some (SV.val e), a.2 * intOf (itm e 1))) (none, 1) (itms d) = z
      have hz2 : z.2 = prodL (itms d) := by rw [← hz]; exact hp _ _ _
      (try simp only [wAll, wpLc, wipeS, zipS, enmS, OV.fz, reduceIte, List.getElem?_cons_zero, List.getElem?_cons_succ, List.set_cons_zero, List.set_cons_succ, Option.map_some, Option.map_none, if_true, if_false, Bool.false_eq_true, ite_true, ite_false, Bool.not_true, Bool.not_false, true_and, and_true, exists_eq_left, Bool.true_and, Bool.and_true, Bool.false_and, Bool.and_false, Bool.true_or, Bool.false_or, Bool.or_true, Bool.or_false])
      rw [seq_row h]
      (try simp only [wAll, wpLc, wipeS, zipS, enmS, OV.fz, reduceIte, List.getElem?_cons_zero, List.getElem?_cons_succ, List.set_cons_zero, List.set_cons_succ, Option.map_some, Option.map_none, if_true, if_false, Bool.false_eq_true, ite_true, ite_false, Bool.not_true, Bool.not_false, true_and, and_true, exists_eq_left, Bool.true_and, Bool.and_true, Bool.false_and, Bool.and_false, Bool.true_or, Bool.false_or, Bool.or_true, Bool.or_false])
      rw [lc_fst (by simp) fun e he => field_fst (hf e he)]
      (try simp only [wAll, wpLc, wipeS, zipS, enmS, OV.fz, reduceIte, List.getElem?_cons_zero, List.getElem?_cons_succ, List.set_cons_zero, List.set_cons_succ, Option.map_some, Option.map_none, if_true, if_false, Bool.false_eq_true, ite_true, ite_false, Bool.not_true, Bool.not_false, true_and, and_true, exists_eq_left, Bool.true_and, Bool.and_true, Bool.false_and, Bool.and_false, Bool.true_or, Bool.false_or, Bool.or_true, Bool.or_false])
      simp only [s3]
      (try simp only [wAll, wpLc, wipeS, zipS, enmS, OV.fz, reduceIte, List.getElem?_cons_zero, List.getElem?_cons_succ, List.set_cons_zero, List.set_cons_succ, Option.map_some, Option.map_none, if_true, if_false, Bool.false_eq_true, ite_true, ite_false, Bool.not_true, Bool.not_false, true_and, and_true, exists_eq_left, Bool.true_and, Bool.and_true, Bool.false_and, Bool.and_false, Bool.true_or, Bool.false_or, Bool.or_true, Bool.or_false])
      rw [c3]
      (try simp only [wAll, wpLc, wipeS, zipS, enmS, OV.fz, reduceIte, List.getElem?_cons_zero, List.getElem?_cons_succ, List.set_cons_zero, List.set_cons_succ, Option.map_some, Option.map_none, if_true, if_false, Bool.false_eq_true, ite_true, ite_false, Bool.not_true, Bool.not_false, true_and, and_true, exists_eq_left, Bool.true_and, Bool.and_true, Bool.false_and, Bool.and_false, Bool.true_or, Bool.false_or, Bool.or_true, Bool.or_false])
      rw [hz2]
      rfl
    · simp only [ha]
      (try simp only [wAll, wpLc, wipeS, zipS, enmS, OV.fz, reduceIte, List.getElem?_cons_zero, List.getElem?_cons_succ, List.set_cons_zero, List.set_cons_succ, Option.map_some, Option.map_none, if_true, if_false, Bool.false_eq_true, ite_true, ite_false, Bool.not_true, Bool.not_false, true_and, and_true, exists_eq_left, Bool.true_and, Bool.and_true, Bool.false_and, Bool.and_false, Bool.true_or, Bool.false_or, Bool.or_true, Bool.or_false])
  · simp only [h]
    (try simp only [wAll, wpLc, wipeS, zipS, enmS, OV.fz, reduceIte, List.getElem?_cons_zero, List.getElem?_cons_succ, List.set_cons_zero, List.set_cons_succ, Option.map_some, Option.map_none, if_true, if_false, Bool.false_eq_true, ite_true, ite_false, Bool.not_true, Bool.not_false, true_and, and_true, exists_eq_left, Bool.true_and, Bool.and_true, Bool.false_and, Bool.and_false, Bool.true_or, Bool.false_or, Bool.or_true, Bool.or_false])

def isManner (d : PyData) : Bool := match d with
  | .str x => decide (x ∈ [("whole" : Str), "part"])
  | _ => false
theorem s8 {k : Nat} {d : PyData} {S : Store} {Q : SV → Store → Prop} : WP (C (k + 1) 8 [.val d] S) Q ↔ Q (.val (.bool (isManner d))) S := by
  rw [u8]
  cases d <;> simp only [isManner] <;> (try simp only [wAll, wpLc, wipeS, zipS, enmS, OV.fz, reduceIte, List.getElem?_cons_zero, List.getElem?_cons_succ, List.set_cons_zero, List.set_cons_succ, Option.map_some, Option.map_none, if_true, if_false, Bool.false_eq_true, ite_true, ite_false, Bool.not_true, Bool.not_false, true_and, and_true, exists_eq_left, Bool.true_and, Bool.and_true, Bool.false_and, Bool.and_false, Bool.true_or, Bool.false_or, Bool.or_true, Bool.or_false])
  rw [c4]; (try simp only [wAll, wpLc, wipeS, zipS, enmS, OV.fz, reduceIte, List.getElem?_cons_zero, List.getElem?_cons_succ, List.set_cons_zero, List.set_cons_succ, Option.map_some, Option.map_none, if_true, if_false, Bool.false_eq_true, ite_true, ite_false, Bool.not_true, Bool.not_false, true_and, and_true, exists_eq_left, Bool.true_and, Bool.and_true, Bool.false_and, Bool.and_false, Bool.true_or, Bool.false_or, Bool.or_true, Bool.or_false])
  rw [c5]; (try simp only [wAll, wpLc, wipeS, zipS, enmS, OV.fz, reduceIte, List.getElem?_cons_zero, List.getElem?_cons_succ, List.set_cons_zero, List.set_cons_succ, Option.map_some, Option.map_none, if_true, if_false, Bool.false_eq_true, ite_true, ite_false, Bool.not_true, Bool.not_false, true_and, and_true, exists_eq_left, Bool.true_and, Bool.and_true, Bool.false_and, Bool.and_false, Bool.true_or, Bool.false_or, Bool.or_true, Bool.or_false])
def isOpd (ns : List Str) (d : PyData) : Bool := match d with
  | .str x => decide (x ∈ ns)
  | d => isInt d 0 3
theorem s9 {k : Nat} {ns : List Str} {d : PyData} {S : Store} {Q : SV → Store → Prop} : WP (C (k + 2) 9 [.val (.list (ns.map .str)), .val d] S) Q ↔ Q (.val (.bool (isOpd ns d))) S := by
  rw [u9]
  cases d <;> simp only [isOpd] <;> (try simp only [wAll, wpLc, wipeS, zipS, enmS, OV.fz, reduceIte, List.getElem?_cons_zero, List.getElem?_cons_succ, List.set_cons_zero, List.set_cons_succ, Option.map_some, Option.map_none, if_true, if_false, Bool.false_eq_true, ite_true, ite_false, Bool.not_true, Bool.not_false, true_and, and_true, exists_eq_left, Bool.true_and, Bool.and_true, Bool.false_and, Bool.and_false, Bool.true_or, Bool.false_or, Bool.or_true, Bool.or_false]) <;> simp only [s0] <;> (try simp only [wAll, wpLc, wipeS, zipS, enmS, OV.fz, reduceIte, List.getElem?_cons_zero, List.getElem?_cons_succ, List.set_cons_zero, List.set_cons_succ, Option.map_some, Option.map_none, if_true, if_false, Bool.false_eq_true, ite_true, ite_false, Bool.not_true, Bool.not_false, true_and, and_true, exists_eq_left, Bool.true_and, Bool.and_true, Bool.false_and, Bool.and_false, Bool.true_or, Bool.false_or, Bool.or_true, Bool.or_false])
def isStrE (d : PyData) (x : Str) : Bool := match d with
  | .str y => decide (y = x)
  | _ => false
def isTerm (ns : List Str) (d : PyData) : Bool := if isTup d then isRow d 3 3 && (isStrE (itm d 0) "sum" && (isOpd ns (itm d 1) && isOpd ns (itm d 2))) else isOpd ns d
theorem o_neis {i j : Int} : copS .ne (.sv (.val (.int i))) (.sv (.val (.int j))) = some (!decide (i = j)) := rfl
theorem isTup_eq {d : PyData} (h : isTup d = true) : d = .tuple (itms d) := by
  cases d with
  | tuple ds => rfl
  | _ => cases h
theorem isRow_eq {d : PyData} (h : isTup d = true) (n : Int) : isRow d n n = decide (((itms d).length : Int) = n) := by
  rw [isTup_eq h]
  show (decide (n ≤ (((itms d).length : Nat) : Int)) && decide ((((itms d).length : Nat) : Int) ≤ n)) = decide ((((itms d).length : Nat) : Int) = n)
  rw [Bool.eq_iff_iff]
  simp only [Bool.and_eq_true, decide_eq_true_eq]
  omega
theorem len_tup {d : PyData} (h : isTup d = true) : biS .len [.sv (.val d)] = some (.sv (.val (.int (itms d).length))) := by
  rw [isTup_eq h]; rfl
theorem s10 {k : Nat} {ns : List Str} {d : PyData} {S : Store} {Q : SV → Store → Prop} : WP (C (k + 3) 10 [.val (.list (ns.map .str)), .val d] S) Q ↔ Q (.val (.bool (isTerm ns d))) S := by
  rw [u10]
  (try simp only [wAll, wpLc, wipeS, zipS, enmS, OV.fz, reduceIte, List.getElem?_cons_zero, List.getElem?_cons_succ, List.set_cons_zero, List.set_cons_succ, Option.map_some, Option.map_none, if_true, if_false, Bool.false_eq_true, ite_true, ite_false, Bool.not_true, Bool.not_false, true_and, and_true, exists_eq_left, Bool.true_and, Bool.and_true, Bool.false_and, Bool.and_false, Bool.true_or, Bool.false_or, Bool.or_true, Bool.or_false])
  simp only [isTerm]
  by_cases ht : isTup d = true
  · simp only [ht]
    (try simp only [wAll, wpLc, wipeS, zipS, enmS, OV.fz, reduceIte, List.getElem?_cons_zero, List.getElem?_cons_succ, List.set_cons_zero, List.set_cons_succ, Option.map_some, Option.map_none, if_true, if_false, Bool.false_eq_true, ite_true, ite_false, Bool.not_true, Bool.not_false, true_and, and_true, exists_eq_left, Bool.true_and, Bool.and_true, Bool.false_and, Bool.and_false, Bool.true_or, Bool.false_or, Bool.or_true, Bool.or_false])
    rw [len_tup ht]
    (try simp only [wAll, wpLc, wipeS, zipS, enmS, OV.fz, reduceIte, List.getElem?_cons_zero, List.getElem?_cons_succ, List.set_cons_zero, List.set_cons_succ, Option.map_some, Option.map_none, if_true, if_false, Bool.false_eq_true, ite_true, ite_false, Bool.not_true, Bool.not_false, true_and, and_true, exists_eq_left, Bool.true_and, Bool.and_true, Bool.false_and, Bool.and_false, Bool.true_or, Bool.false_or, Bool.or_true, Bool.or_false])
    rw [← isRow_eq ht 3]
    (try simp only [wAll, wpLc, wipeS, zipS, enmS, OV.fz, reduceIte, List.getElem?_cons_zero, List.getElem?_cons_succ, List.set_cons_zero, List.set_cons_succ, Option.map_some, Option.map_none, if_true, if_false, Bool.false_eq_true, ite_true, ite_false, Bool.not_true, Bool.not_false, true_and, and_true, exists_eq_left, Bool.true_and, Bool.and_true, Bool.false_and, Bool.and_false, Bool.true_or, Bool.false_or, Bool.or_true, Bool.or_false])
    by_cases h : isRow d 3 3 = true
    · simp only [h, row_sub0 h, row_sub1 h, row_sub2 h]
      (try simp only [wAll, wpLc, wipeS, zipS, enmS, OV.fz, reduceIte, List.getElem?_cons_zero, List.getElem?_cons_succ, List.set_cons_zero, List.set_cons_succ, Option.map_some, Option.map_none, if_true, if_false, Bool.false_eq_true, ite_true, ite_false, Bool.not_true, Bool.not_false, true_and, and_true, exists_eq_left, Bool.true_and, Bool.and_true, Bool.false_and, Bool.and_false, Bool.true_or, Bool.false_or, Bool.or_true, Bool.or_false])
      generalize itm d 0 = r
      cases r <;> simp only [isStrE] <;> (try simp only [wAll, wpLc, wipeS, zipS, enmS, OV.fz, reduceIte, List.getElem?_cons_zero, List.getElem?_cons_succ, List.set_cons_zero, List.set_cons_succ, Option.map_some, Option.map_none, if_true, if_false, Bool.false_eq_true, ite_true, ite_false, Bool.not_true, Bool.not_false, true_and, and_true, exists_eq_left, Bool.true_and, Bool.and_true, Bool.false_and, Bool.and_false, Bool.true_or, Bool.false_or, Bool.or_true, Bool.or_false])
      rw [c6]; (try simp only [wAll, wpLc, wipeS, zipS, enmS, OV.fz, reduceIte, List.getElem?_cons_zero, List.getElem?_cons_succ, List.set_cons_zero, List.set_cons_succ, Option.map_some, Option.map_none, if_true, if_false, Bool.false_eq_true, ite_true, ite_false, Bool.not_true, Bool.not_false, true_and, and_true, exists_eq_left, Bool.true_and, Bool.and_true, Bool.false_and, Bool.and_false, Bool.true_or, Bool.false_or, Bool.or_true, Bool.or_false])
      simp only [s9]
      (try simp only [wAll, wpLc, wipeS, zipS, enmS, OV.fz, reduceIte, List.getElem?_cons_zero, List.getElem?_cons_succ, List.set_cons_zero, List.set_cons_succ, Option.map_some, Option.map_none, if_true, if_false, Bool.false_eq_true, ite_true, ite_false, Bool.not_true, Bool.not_false, true_and, and_true, exists_eq_left, Bool.true_and, Bool.and_true, Bool.false_and, Bool.and_false, Bool.true_or, Bool.false_or, Bool.or_true, Bool.or_false])
      cases decide (_ = Str.ofString "sum") <;> simp
    · simp only [h]
      (try simp only [wAll, wpLc, wipeS, zipS, enmS, OV.fz, reduceIte, List.getElem?_cons_zero, List.getElem?_cons_succ, List.set_cons_zero, List.set_cons_succ, Option.map_some, Option.map_none, if_true, if_false, Bool.false_eq_true, ite_true, ite_false, Bool.not_true, Bool.not_false, true_and, and_true, exists_eq_left, Bool.true_and, Bool.and_true, Bool.false_and, Bool.and_false, Bool.true_or, Bool.false_or, Bool.or_true, Bool.or_false])
  · simp only [ht]
    (try simp only [wAll, wpLc, wipeS, zipS, enmS, OV.fz, reduceIte, List.getElem?_cons_zero, List.getElem?_cons_succ, List.set_cons_zero, List.set_cons_succ, Option.map_some, Option.map_none, if_true, if_false, Bool.false_eq_true, ite_true, ite_false, Bool.not_true, Bool.not_false, true_and, and_true, exists_eq_left, Bool.true_and, Bool.and_true, Bool.false_and, Bool.and_false, Bool.true_or, Bool.false_or, Bool.or_true, Bool.or_false])
    simp only [s9]
    (try simp only [wAll, wpLc, wipeS, zipS, enmS, OV.fz, reduceIte, List.getElem?_cons_zero, List.getElem?_cons_succ, List.set_cons_zero, List.set_cons_succ, Option.map_some, Option.map_none, if_true, if_false, Bool.false_eq_true, ite_true, ite_false, Bool.not_true, Bool.not_false, true_and, and_true, exists_eq_left, Bool.true_and, Bool.and_true, Bool.false_and, Bool.and_false, Bool.true_or, Bool.false_or, Bool.or_true, Bool.or_false])
def isSgn (d : PyData) : Bool := match d with
  | .str x => decide (x ∈ [("=" : Str), "<"])
  | _ => false
def isCond (ns : List Str) (d : PyData) : Bool := isRow d 3 3 && (isSgn (itm d 1) && (isOpd ns (itm d 0) && isOpd ns (itm d 2)))
theorem s11 {k : Nat} {ns : List Str} {d : PyData} {S : Store} {Q : SV → Store → Prop} : WP (C (k + 3) 11 [.val (.list (ns.map .str)), .val d] S) Q ↔ Q (.val (.bool (isCond ns d))) S := by
  rw [u11]
  (try simp only [wAll, wpLc, wipeS, zipS, enmS, OV.fz, reduceIte, List.getElem?_cons_zero, List.getElem?_cons_succ, List.set_cons_zero, List.set_cons_succ, Option.map_some, Option.map_none, if_true, if_false, Bool.false_eq_true, ite_true, ite_false, Bool.not_true, Bool.not_false, true_and, and_true, exists_eq_left, Bool.true_and, Bool.and_true, Bool.false_and, Bool.and_false, Bool.true_or, Bool.false_or, Bool.or_true, Bool.or_false])
  simp only [s2, isCond]
  by_cases h : isRow d 3 3 = true
  · simp only [h, row_sub0 h, row_sub1 h, row_sub2 h]
    (try simp only [wAll, wpLc, wipeS, zipS, enmS, OV.fz, reduceIte, List.getElem?_cons_zero, List.getElem?_cons_succ, List.set_cons_zero, List.set_cons_succ, Option.map_some, Option.map_none, if_true, if_false, Bool.false_eq_true, ite_true, ite_false, Bool.not_true, Bool.not_false, true_and, and_true, exists_eq_left, Bool.true_and, Bool.and_true, Bool.false_and, Bool.and_false, Bool.true_or, Bool.false_or, Bool.or_true, Bool.or_false])
    generalize itm d 1 = r
    cases r <;> simp only [isSgn] <;> (try simp only [wAll, wpLc, wipeS, zipS, enmS, OV.fz, reduceIte, List.getElem?_cons_zero, List.getElem?_cons_succ, List.set_cons_zero, List.set_cons_succ, Option.map_some, Option.map_none, if_true, if_false, Bool.false_eq_true, ite_true, ite_false, Bool.not_true, Bool.not_false, true_and, and_true, exists_eq_left, Bool.true_and, Bool.and_true, Bool.false_and, Bool.and_false, Bool.true_or, Bool.false_or, Bool.or_true, Bool.or_false])
    rename_i x
    simp only [s9]
    (try simp only [wAll, wpLc, wipeS, zipS, enmS, OV.fz, reduceIte, List.getElem?_cons_zero, List.getElem?_cons_succ, List.set_cons_zero, List.set_cons_succ, Option.map_some, Option.map_none, if_true, if_false, Bool.false_eq_true, ite_true, ite_false, Bool.not_true, Bool.not_false, true_and, and_true, exists_eq_left, Bool.true_and, Bool.and_true, Bool.false_and, Bool.and_false, Bool.true_or, Bool.false_or, Bool.or_true, Bool.or_false])
    cases decide (x ∈ [Str.ofString "=", Str.ofString "<"]) <;> simp
  · simp only [h]
    (try simp only [wAll, wpLc, wipeS, zipS, enmS, OV.fz, reduceIte, List.getElem?_cons_zero, List.getElem?_cons_succ, List.set_cons_zero, List.set_cons_succ, Option.map_some, Option.map_none, if_true, if_false, Bool.false_eq_true, ite_true, ite_false, Bool.not_true, Bool.not_false, true_and, and_true, exists_eq_left, Bool.true_and, Bool.and_true, Bool.false_and, Bool.and_false, Bool.true_or, Bool.false_or, Bool.or_true, Bool.or_false])
def isTgt (ns : List Str) (d : PyData) : Bool := match d with
  | .str x => !decide (x = ("arg" : Str)) && decide (x ∈ ns)
  | _ => false
def isSet (ns : List Str) (d : PyData) : Bool := isRow d 2 2 && (isTgt ns (itm d 0) && isTerm ns (itm d 1))
theorem s12 {k : Nat} {ns : List Str} {d : PyData} {S : Store} {Q : SV → Store → Prop} : WP (C (k + 4) 12 [.val (.list (ns.map .str)), .val d] S) Q ↔ Q (.val (.bool (isSet ns d))) S := by
  rw [u12]
  (try simp only [wAll, wpLc, wipeS, zipS, enmS, OV.fz, reduceIte, List.getElem?_cons_zero, List.getElem?_cons_succ, List.set_cons_zero, List.set_cons_succ, Option.map_some, Option.map_none, if_true, if_false, Bool.false_eq_true, ite_true, ite_false, Bool.not_true, Bool.not_false, true_and, and_true, exists_eq_left, Bool.true_and, Bool.and_true, Bool.false_and, Bool.and_false, Bool.true_or, Bool.false_or, Bool.or_true, Bool.or_false])
  simp only [s2, isSet]
  by_cases h : isRow d 2 2 = true
  · simp only [h, row_sub0 h, row_sub1 h]
    (try simp only [wAll, wpLc, wipeS, zipS, enmS, OV.fz, reduceIte, List.getElem?_cons_zero, List.getElem?_cons_succ, List.set_cons_zero, List.set_cons_succ, Option.map_some, Option.map_none, if_true, if_false, Bool.false_eq_true, ite_true, ite_false, Bool.not_true, Bool.not_false, true_and, and_true, exists_eq_left, Bool.true_and, Bool.and_true, Bool.false_and, Bool.and_false, Bool.true_or, Bool.false_or, Bool.or_true, Bool.or_false])
    generalize itm d 0 = r
    cases r <;> simp only [isTgt] <;> (try simp only [wAll, wpLc, wipeS, zipS, enmS, OV.fz, reduceIte, List.getElem?_cons_zero, List.getElem?_cons_succ, List.set_cons_zero, List.set_cons_succ, Option.map_some, Option.map_none, if_true, if_false, Bool.false_eq_true, ite_true, ite_false, Bool.not_true, Bool.not_false, true_and, and_true, exists_eq_left, Bool.true_and, Bool.and_true, Bool.false_and, Bool.and_false, Bool.true_or, Bool.false_or, Bool.or_true, Bool.or_false])
    rw [c7]; (try simp only [wAll, wpLc, wipeS, zipS, enmS, OV.fz, reduceIte, List.getElem?_cons_zero, List.getElem?_cons_succ, List.set_cons_zero, List.set_cons_succ, Option.map_some, Option.map_none, if_true, if_false, Bool.false_eq_true, ite_true, ite_false, Bool.not_true, Bool.not_false, true_and, and_true, exists_eq_left, Bool.true_and, Bool.and_true, Bool.false_and, Bool.and_false, Bool.true_or, Bool.false_or, Bool.or_true, Bool.or_false])
    rename_i x
    simp only [s10]
    (try simp only [wAll, wpLc, wipeS, zipS, enmS, OV.fz, reduceIte, List.getElem?_cons_zero, List.getElem?_cons_succ, List.set_cons_zero, List.set_cons_succ, Option.map_some, Option.map_none, if_true, if_false, Bool.false_eq_true, ite_true, ite_false, Bool.not_true, Bool.not_false, true_and, and_true, exists_eq_left, Bool.true_and, Bool.and_true, Bool.false_and, Bool.and_false, Bool.true_or, Bool.false_or, Bool.or_true, Bool.or_false])
    cases decide (x = Str.ofString "arg") <;> cases decide (x ∈ ns) <;> simp
  · simp only [h]
    (try simp only [wAll, wpLc, wipeS, zipS, enmS, OV.fz, reduceIte, List.getElem?_cons_zero, List.getElem?_cons_succ, List.set_cons_zero, List.set_cons_succ, Option.map_some, Option.map_none, if_true, if_false, Bool.false_eq_true, ite_true, ite_false, Bool.not_true, Bool.not_false, true_and, and_true, exists_eq_left, Bool.true_and, Bool.and_true, Bool.false_and, Bool.and_false, Bool.true_or, Bool.false_or, Bool.or_true, Bool.or_false])

def isNone (d : PyData) : Bool := isNon (.sv (.val d))
def isRule (ns : List Str) (d : PyData) : Bool := isRow d 3 3 && ((isRow (itm d 0) 0 2 && isRow (itm d 1) 0 3) && (((itms (itm d 0)).all (isCond ns) && (itms (itm d 1)).all (isSet ns)) && (asc (fsts (itms (itm d 1))) && (isNone (itm d 2) || isTerm ns (itm d 2)))))
theorem isTgt_str {ns : List Str} {d : PyData} (h : isTgt ns d = true) : d = .str (strOf d) := by
  cases d with
  | str x => rfl
  | _ => cases h
theorem row_fst' {d : PyData} {lo hi : Int} (h : isRow d lo hi = true) (h0 : 0 < lo) (hn : itm d 0 = .str (strOf (itm d 0))) : ∃ x r, d = .tuple (.str x :: r) := by
  obtain ⟨h1, h2, h3⟩ := isRow_tup h
  cases e : itms d with
  | nil => rw [e] at h2; simp at h2; omega
  | cons a r =>
    rw [e] at h1
    have : itm d 0 = a := by unfold itm; rw [e]; rfl
    rw [this] at hn
    rw [hn] at h1
    exact ⟨_, r, h1⟩
theorem set_fst {ns : List Str} {d : PyData} (h : isSet ns d = true) : ∃ x r, d = .tuple (.str x :: r) := by
  unfold isSet at h
  simp only [Bool.and_eq_true] at h
  exact row_fst' h.1 (by decide) (isTgt_str h.2.1)
theorem seq_itm {d : PyData} {lo hi : Int} (h : isRow d lo hi = true) : seqD (.val d) = some (itms d) := seq_row h
theorem s13 {k : Nat} {ns : List Str} {d : PyData} {S : Store} {Q : SV → Store → Prop} : WP (C (k + 5) 13 [.val (.list (ns.map .str)), .val d] S) Q ↔ Q (.val (.bool (isRule ns d))) S := by
  rw [u13]
  (try simp only [wAll, wpLc, wipeS, zipS, enmS, OV.fz, reduceIte, List.getElem?_cons_zero, List.getElem?_cons_succ, List.set_cons_zero, List.set_cons_succ, Option.map_some, Option.map_none, if_true, if_false, Bool.false_eq_true, ite_true, ite_false, Bool.not_true, Bool.not_false, true_and, and_true, exists_eq_left, Bool.true_and, Bool.and_true, Bool.false_and, Bool.and_false, Bool.true_or, Bool.false_or, Bool.or_true, Bool.or_false])
  simp only [s2, isRule]
  by_cases h : isRow d 3 3 = true
  · simp only [h, row_sub0 h, row_sub1 h, row_sub2 h]
    (try simp only [wAll, wpLc, wipeS, zipS, enmS, OV.fz, reduceIte, List.getElem?_cons_zero, List.getElem?_cons_succ, List.set_cons_zero, List.set_cons_succ, Option.map_some, Option.map_none, if_true, if_false, Bool.false_eq_true, ite_true, ite_false, Bool.not_true, Bool.not_false, true_and, and_true, exists_eq_left, Bool.true_and, Bool.and_true, Bool.false_and, Bool.and_false, Bool.true_or, Bool.false_or, Bool.or_true, Bool.or_false])
    simp only [s2]
    (try simp only [wAll, wpLc, wipeS, zipS, enmS, OV.fz, reduceIte, List.getElem?_cons_zero, List.getElem?_cons_succ, List.set_cons_zero, List.set_cons_succ, Option.map_some, Option.map_none, if_true, if_false, Bool.false_eq_true, ite_true, ite_false, Bool.not_true, Bool.not_false, true_and, and_true, exists_eq_left, Bool.true_and, Bool.and_true, Bool.false_and, Bool.and_false, Bool.true_or, Bool.false_or, Bool.or_true, Bool.or_false])
    by_cases h0 : isRow (itm d 0) 0 2 = true
    · by_cases h1 : isRow (itm d 1) 0 3 = true
      · simp only [h0, h1, seq_row h0, seq_row h1]
        (try simp only [wAll, wpLc, wipeS, zipS, enmS, OV.fz, reduceIte, List.getElem?_cons_zero, List.getElem?_cons_succ, List.set_cons_zero, List.set_cons_succ, Option.map_some, Option.map_none, if_true, if_false, Bool.false_eq_true, ite_true, ite_false, Bool.not_true, Bool.not_false, true_and, and_true, exists_eq_left, Bool.true_and, Bool.and_true, Bool.false_and, Bool.and_false, Bool.true_or, Bool.false_or, Bool.or_true, Bool.or_false])
        rw [lc_map (fun e => .bool (isCond ns e)) (ds := itms (itm d 0)) (fun e _ => by (try simp only [wAll, wpLc, wipeS, zipS, enmS, OV.fz, reduceIte, List.getElem?_cons_zero, List.getElem?_cons_succ, List.set_cons_zero, List.set_cons_succ, Option.map_some, Option.map_none, if_true, if_false, Bool.false_eq_true, ite_true, ite_false, Bool.not_true, Bool.not_false, true_and, and_true, exists_eq_left, Bool.true_and, Bool.and_true, Bool.false_and, Bool.and_false, Bool.true_or, Bool.false_or, Bool.or_true, Bool.or_false]); rw [s11]; (try simp only [wAll, wpLc, wipeS, zipS, enmS, OV.fz, reduceIte, List.getElem?_cons_zero, List.getElem?_cons_succ, List.set_cons_zero, List.set_cons_succ, Option.map_some, Option.map_none, if_true, if_false, Bool.false_eq_true, ite_true, ite_false, Bool.not_true, Bool.not_false, true_and, and_true, exists_eq_left, Bool.true_and, Bool.and_true, Bool.false_and, Bool.and_false, Bool.true_or, Bool.false_or, Bool.or_true, Bool.or_false])), allB]
        (try simp only [wAll, wpLc, wipeS, zipS, enmS, OV.fz, reduceIte, List.getElem?_cons_zero, List.getElem?_cons_succ, List.set_cons_zero, List.set_cons_succ, Option.map_some, Option.map_none, if_true, if_false, Bool.false_eq_true, ite_true, ite_false, Bool.not_true, Bool.not_false, true_and, and_true, exists_eq_left, Bool.true_and, Bool.and_true, Bool.false_and, Bool.and_false, Bool.true_or, Bool.false_or, Bool.or_true, Bool.or_false])
        cases (itms (itm d 0)).all (isCond ns)
        · (try simp only [wAll, wpLc, wipeS, zipS, enmS, OV.fz, reduceIte, List.getElem?_cons_zero, List.getElem?_cons_succ, List.set_cons_zero, List.set_cons_succ, Option.map_some, Option.map_none, if_true, if_false, Bool.false_eq_true, ite_true, ite_false, Bool.not_true, Bool.not_false, true_and, and_true, exists_eq_left, Bool.true_and, Bool.and_true, Bool.false_and, Bool.and_false, Bool.true_or, Bool.false_or, Bool.or_true, Bool.or_false])
        · (try simp only [wAll, wpLc, wipeS, zipS, enmS, OV.fz, reduceIte, List.getElem?_cons_zero, List.getElem?_cons_succ, List.set_cons_zero, List.set_cons_succ, Option.map_some, Option.map_none, if_true, if_false, Bool.false_eq_true, ite_true, ite_false, Bool.not_true, Bool.not_false, true_and, and_true, exists_eq_left, Bool.true_and, Bool.and_true, Bool.false_and, Bool.and_false, Bool.true_or, Bool.false_or, Bool.or_true, Bool.or_false])
          rw [lc_map (fun e => .bool (isSet ns e)) (ds := itms (itm d 1)) (fun e _ => by (try simp only [wAll, wpLc, wipeS, zipS, enmS, OV.fz, reduceIte, List.getElem?_cons_zero, List.getElem?_cons_succ, List.set_cons_zero, List.set_cons_succ, Option.map_some, Option.map_none, if_true, if_false, Bool.false_eq_true, ite_true, ite_false, Bool.not_true, Bool.not_false, true_and, and_true, exists_eq_left, Bool.true_and, Bool.and_true, Bool.false_and, Bool.and_false, Bool.true_or, Bool.false_or, Bool.or_true, Bool.or_false]); rw [s12]; (try simp only [wAll, wpLc, wipeS, zipS, enmS, OV.fz, reduceIte, List.getElem?_cons_zero, List.getElem?_cons_succ, List.set_cons_zero, List.set_cons_succ, Option.map_some, Option.map_none, if_true, if_false, Bool.false_eq_true, ite_true, ite_false, Bool.not_true, Bool.not_false, true_and, and_true, exists_eq_left, Bool.true_and, Bool.and_true, Bool.false_and, Bool.and_false, Bool.true_or, Bool.false_or, Bool.or_true, Bool.or_false])), allB]
          (try simp only [wAll, wpLc, wipeS, zipS, enmS, OV.fz, reduceIte, List.getElem?_cons_zero, List.getElem?_cons_succ, List.set_cons_zero, List.set_cons_succ, Option.map_some, Option.map_none, if_true, if_false, Bool.false_eq_true, ite_true, ite_false, Bool.not_true, Bool.not_false, true_and, and_true, exists_eq_left, Bool.true_and, Bool.and_true, Bool.false_and, Bool.and_false, Bool.true_or, Bool.false_or, Bool.or_true, Bool.or_false])
          by_cases ha : (itms (itm d 1)).all (isSet ns) = true
          · simp only [ha]
            (try simp only [wAll, wpLc, wipeS, zipS, enmS, OV.fz, reduceIte, List.getElem?_cons_zero, List.getElem?_cons_succ, List.set_cons_zero, List.set_cons_succ, Option.map_some, Option.map_none, if_true, if_false, Bool.false_eq_true, ite_true, ite_false, Bool.not_true, Bool.not_false, true_and, and_true, exists_eq_left, Bool.true_and, Bool.and_true, Bool.false_and, Bool.and_false, Bool.true_or, Bool.false_or, Bool.or_true, Bool.or_false])
            rw [lc_fst (by simp) fun e he => set_fst (List.all_eq_true.mp ha e he)]
            simp only [s3]
            (try simp only [wAll, wpLc, wipeS, zipS, enmS, OV.fz, reduceIte, List.getElem?_cons_zero, List.getElem?_cons_succ, List.set_cons_zero, List.set_cons_succ, Option.map_some, Option.map_none, if_true, if_false, Bool.false_eq_true, ite_true, ite_false, Bool.not_true, Bool.not_false, true_and, and_true, exists_eq_left, Bool.true_and, Bool.and_true, Bool.false_and, Bool.and_false, Bool.true_or, Bool.false_or, Bool.or_true, Bool.or_false])
            rw [s10]
            (try simp only [wAll, wpLc, wipeS, zipS, enmS, OV.fz, reduceIte, List.getElem?_cons_zero, List.getElem?_cons_succ, List.set_cons_zero, List.set_cons_succ, Option.map_some, Option.map_none, if_true, if_false, Bool.false_eq_true, ite_true, ite_false, Bool.not_true, Bool.not_false, true_and, and_true, exists_eq_left, Bool.true_and, Bool.and_true, Bool.false_and, Bool.and_false, Bool.true_or, Bool.false_or, Bool.or_true, Bool.or_false])
            rfl
          · simp only [ha]
            (try simp only [wAll, wpLc, wipeS, zipS, enmS, OV.fz, reduceIte, List.getElem?_cons_zero, List.getElem?_cons_succ, List.set_cons_zero, List.set_cons_succ, Option.map_some, Option.map_none, if_true, if_false, Bool.false_eq_true, ite_true, ite_false, Bool.not_true, Bool.not_false, true_and, and_true, exists_eq_left, Bool.true_and, Bool.and_true, Bool.false_and, Bool.and_false, Bool.true_or, Bool.false_or, Bool.or_true, Bool.or_false])
      · simp only [h0, h1]
        (try simp only [wAll, wpLc, wipeS, zipS, enmS, OV.fz, reduceIte, List.getElem?_cons_zero, List.getElem?_cons_succ, List.set_cons_zero, List.set_cons_succ, Option.map_some, Option.map_none, if_true, if_false, Bool.false_eq_true, ite_true, ite_false, Bool.not_true, Bool.not_false, true_and, and_true, exists_eq_left, Bool.true_and, Bool.and_true, Bool.false_and, Bool.and_false, Bool.true_or, Bool.false_or, Bool.or_true, Bool.or_false])
    · simp only [h0]
      (try simp only [wAll, wpLc, wipeS, zipS, enmS, OV.fz, reduceIte, List.getElem?_cons_zero, List.getElem?_cons_succ, List.set_cons_zero, List.set_cons_succ, Option.map_some, Option.map_none, if_true, if_false, Bool.false_eq_true, ite_true, ite_false, Bool.not_true, Bool.not_false, true_and, and_true, exists_eq_left, Bool.true_and, Bool.and_true, Bool.false_and, Bool.and_false, Bool.true_or, Bool.false_or, Bool.or_true, Bool.or_false])
  · simp only [h]
    (try simp only [wAll, wpLc, wipeS, zipS, enmS, OV.fz, reduceIte, List.getElem?_cons_zero, List.getElem?_cons_succ, List.set_cons_zero, List.set_cons_succ, Option.map_some, Option.map_none, if_true, if_false, Bool.false_eq_true, ite_true, ite_false, Bool.not_true, Bool.not_false, true_and, and_true, exists_eq_left, Bool.true_and, Bool.and_true, Bool.false_and, Bool.and_false, Bool.true_or, Bool.false_or, Bool.or_true, Bool.or_false])
theorem s14 {k : Nat} {d : PyData} {lo hi : Int} {S : Store} {Q : SV → Store → Prop} (h : isRow d lo hi = true) (hf : ∀ e ∈ itms d, ∃ x r, e = .tuple (.str x :: r)) : WP (C (k + 1) 14 [.val d] S) Q ↔ Q (.val (.list ((fsts (itms d)).map .str))) S := by
  rw [u14]
  (try simp only [wAll, wpLc, wipeS, zipS, enmS, OV.fz, reduceIte, List.getElem?_cons_zero, List.getElem?_cons_succ, List.set_cons_zero, List.set_cons_succ, Option.map_some, Option.map_none, if_true, if_false, Bool.false_eq_true, ite_true, ite_false, Bool.not_true, Bool.not_false, true_and, and_true, exists_eq_left, Bool.true_and, Bool.and_true, Bool.false_and, Bool.and_false, Bool.true_or, Bool.false_or, Bool.or_true, Bool.or_false])
  rw [seq_row h]
  (try simp only [wAll, wpLc, wipeS, zipS, enmS, OV.fz, reduceIte, List.getElem?_cons_zero, List.getElem?_cons_succ, List.set_cons_zero, List.set_cons_succ, Option.map_some, Option.map_none, if_true, if_false, Bool.false_eq_true, ite_true, ite_false, Bool.not_true, Bool.not_false, true_and, and_true, exists_eq_left, Bool.true_and, Bool.and_true, Bool.false_and, Bool.and_false, Bool.true_or, Bool.false_or, Bool.or_true, Bool.or_false])
  rw [lc_fst (by simp) hf]
  (try simp only [wAll, wpLc, wipeS, zipS, enmS, OV.fz, reduceIte, List.getElem?_cons_zero, List.getElem?_cons_succ, List.set_cons_zero, List.set_cons_succ, Option.map_some, Option.map_none, if_true, if_false, Bool.false_eq_true, ite_true, ite_false, Bool.not_true, Bool.not_false, true_and, and_true, exists_eq_left, Bool.true_and, Bool.and_true, Bool.false_and, Bool.and_false, Bool.true_or, Bool.false_or, Bool.or_true, Bool.or_false])
  rfl
def isAsk (ns : List Str) (d : PyData) : Bool := isRow d 3 3 && ((isNm (itm d 0) && isInt (itm d 1) 1 3) && (isRow (itm d 2) 0 4 && (itms (itm d 2)).all (isRule (ns ++ [("arg" : Str)]))))
theorem o_addl {ds es : List PyData} : bopS .add (.sv (.val (.list ds))) (.new (.lst es)) = if ds.length + es.length ≤ szL then some (.new (.lst (ds ++ es))) else none := rfl
theorem ls1 {a : PyData} : lstS [.val a] = some [a] := rfl
theorem s15 {k : Nat} {f d : PyData} {S : Store} {Q : SV → Store → Prop} (hf : areFields f = true) : WP (C (k + 6) 15 [.val f, .val d] S) Q ↔ Q (.val (.bool (isAsk (fsts (itms f)) d))) S := by
  unfold areFields at hf
  simp only [Bool.and_eq_true] at hf
  obtain ⟨f1, f2, _⟩ := hf
  have f3 : ∀ e ∈ itms f, ∃ x r, e = .tuple (.str x :: r) := fun e he => field_fst (List.all_eq_true.mp f2 e he)
  rw [u15]
  (try simp only [wAll, wpLc, wipeS, zipS, enmS, OV.fz, reduceIte, List.getElem?_cons_zero, List.getElem?_cons_succ, List.set_cons_zero, List.set_cons_succ, Option.map_some, Option.map_none, if_true, if_false, Bool.false_eq_true, ite_true, ite_false, Bool.not_true, Bool.not_false, true_and, and_true, exists_eq_left, Bool.true_and, Bool.and_true, Bool.false_and, Bool.and_false, Bool.true_or, Bool.false_or, Bool.or_true, Bool.or_false])
  simp only [s2, isAsk]
  by_cases h : isRow d 3 3 = true
  · simp only [h, row_sub0 h, row_sub1 h, row_sub2 h]
    (try simp only [wAll, wpLc, wipeS, zipS, enmS, OV.fz, reduceIte, List.getElem?_cons_zero, List.getElem?_cons_succ, List.set_cons_zero, List.set_cons_succ, Option.map_some, Option.map_none, if_true, if_false, Bool.false_eq_true, ite_true, ite_false, Bool.not_true, Bool.not_false, true_and, and_true, exists_eq_left, Bool.true_and, Bool.and_true, Bool.false_and, Bool.and_false, Bool.true_or, Bool.false_or, Bool.or_true, Bool.or_false])
    simp only [s1, s0]
    (try simp only [wAll, wpLc, wipeS, zipS, enmS, OV.fz, reduceIte, List.getElem?_cons_zero, List.getElem?_cons_succ, List.set_cons_zero, List.set_cons_succ, Option.map_some, Option.map_none, if_true, if_false, Bool.false_eq_true, ite_true, ite_false, Bool.not_true, Bool.not_false, true_and, and_true, exists_eq_left, Bool.true_and, Bool.and_true, Bool.false_and, Bool.and_false, Bool.true_or, Bool.false_or, Bool.or_true, Bool.or_false])
    by_cases h1 : isNm (itm d 0) = true
    · simp only [h1]
      (try simp only [wAll, wpLc, wipeS, zipS, enmS, OV.fz, reduceIte, List.getElem?_cons_zero, List.getElem?_cons_succ, List.set_cons_zero, List.set_cons_succ, Option.map_some, Option.map_none, if_true, if_false, Bool.false_eq_true, ite_true, ite_false, Bool.not_true, Bool.not_false, true_and, and_true, exists_eq_left, Bool.true_and, Bool.and_true, Bool.false_and, Bool.and_false, Bool.true_or, Bool.false_or, Bool.or_true, Bool.or_false])
      by_cases h2 : isInt (itm d 1) 1 3 = true
      · simp only [h2]
        (try simp only [wAll, wpLc, wipeS, zipS, enmS, OV.fz, reduceIte, List.getElem?_cons_zero, List.getElem?_cons_succ, List.set_cons_zero, List.set_cons_succ, Option.map_some, Option.map_none, if_true, if_false, Bool.false_eq_true, ite_true, ite_false, Bool.not_true, Bool.not_false, true_and, and_true, exists_eq_left, Bool.true_and, Bool.and_true, Bool.false_and, Bool.and_false, Bool.true_or, Bool.false_or, Bool.or_true, Bool.or_false])
        simp only [s2]
        (try simp only [wAll, wpLc, wipeS, zipS, enmS, OV.fz, reduceIte, List.getElem?_cons_zero, List.getElem?_cons_succ, List.set_cons_zero, List.set_cons_succ, Option.map_some, Option.map_none, if_true, if_false, Bool.false_eq_true, ite_true, ite_false, Bool.not_true, Bool.not_false, true_and, and_true, exists_eq_left, Bool.true_and, Bool.and_true, Bool.false_and, Bool.and_false, Bool.true_or, Bool.false_or, Bool.or_true, Bool.or_false])
        by_cases h3 : isRow (itm d 2) 0 4 = true
        · simp only [h3, seq_row h3]
          (try simp only [wAll, wpLc, wipeS, zipS, enmS, OV.fz, reduceIte, List.getElem?_cons_zero, List.getElem?_cons_succ, List.set_cons_zero, List.set_cons_succ, Option.map_some, Option.map_none, if_true, if_false, Bool.false_eq_true, ite_true, ite_false, Bool.not_true, Bool.not_false, true_and, and_true, exists_eq_left, Bool.true_and, Bool.and_true, Bool.false_and, Bool.and_false, Bool.true_or, Bool.false_or, Bool.or_true, Bool.or_false])
          rw [lc_map (fun e => .bool (isRule (fsts (itms f) ++ [("arg" : Str)]) e)) (ds := itms (itm d 2)) (fun e _ => by
            (try simp only [wAll, wpLc, wipeS, zipS, enmS, OV.fz, reduceIte, List.getElem?_cons_zero, List.getElem?_cons_succ, List.set_cons_zero, List.set_cons_succ, Option.map_some, Option.map_none, if_true, if_false, Bool.false_eq_true, ite_true, ite_false, Bool.not_true, Bool.not_false, true_and, and_true, exists_eq_left, Bool.true_and, Bool.and_true, Bool.false_and, Bool.and_false, Bool.true_or, Bool.false_or, Bool.or_true, Bool.or_false])
            rw [s14 f1 f3]
            (try simp only [wAll, wpLc, wipeS, zipS, enmS, OV.fz, reduceIte, List.getElem?_cons_zero, List.getElem?_cons_succ, List.set_cons_zero, List.set_cons_succ, Option.map_some, Option.map_none, if_true, if_false, Bool.false_eq_true, ite_true, ite_false, Bool.not_true, Bool.not_false, true_and, and_true, exists_eq_left, Bool.true_and, Bool.and_true, Bool.false_and, Bool.and_false, Bool.true_or, Bool.false_or, Bool.or_true, Bool.or_false])
            rw [c7]
            (try simp only [wAll, wpLc, wipeS, zipS, enmS, OV.fz, reduceIte, List.getElem?_cons_zero, List.getElem?_cons_succ, List.set_cons_zero, List.set_cons_succ, Option.map_some, Option.map_none, if_true, if_false, Bool.false_eq_true, ite_true, ite_false, Bool.not_true, Bool.not_false, true_and, and_true, exists_eq_left, Bool.true_and, Bool.and_true, Bool.false_and, Bool.and_false, Bool.true_or, Bool.false_or, Bool.or_true, Bool.or_false])
            rw [o_addl]
            (try simp only [wAll, wpLc, wipeS, zipS, enmS, OV.fz, reduceIte, List.getElem?_cons_zero, List.getElem?_cons_succ, List.set_cons_zero, List.set_cons_succ, Option.map_some, Option.map_none, if_true, if_false, Bool.false_eq_true, ite_true, ite_false, Bool.not_true, Bool.not_false, true_and, and_true, exists_eq_left, Bool.true_and, Bool.and_true, Bool.false_and, Bool.and_false, Bool.true_or, Bool.false_or, Bool.or_true, Bool.or_false])
            refine ⟨?_, ?_⟩
            · have := (isRow_tup f1).2.2
              simp only [List.length_map, fsts, List.length_singleton]
              show _ ≤ 16777216
              omega
            · rw [show [PyData.str (Str.ofString "arg")] = List.map PyData.str [("arg" : Str)] from rfl, ← List.map_append, s13]
              (try simp only [wAll, wpLc, wipeS, zipS, enmS, OV.fz, reduceIte, List.getElem?_cons_zero, List.getElem?_cons_succ, List.set_cons_zero, List.set_cons_succ, Option.map_some, Option.map_none, if_true, if_false, Bool.false_eq_true, ite_true, ite_false, Bool.not_true, Bool.not_false, true_and, and_true, exists_eq_left, Bool.true_and, Bool.and_true, Bool.false_and, Bool.and_false, Bool.true_or, Bool.false_or, Bool.or_true, Bool.or_false])), allB]
          (try simp only [wAll, wpLc, wipeS, zipS, enmS, OV.fz, reduceIte, List.getElem?_cons_zero, List.getElem?_cons_succ, List.set_cons_zero, List.set_cons_succ, Option.map_some, Option.map_none, if_true, if_false, Bool.false_eq_true, ite_true, ite_false, Bool.not_true, Bool.not_false, true_and, and_true, exists_eq_left, Bool.true_and, Bool.and_true, Bool.false_and, Bool.and_false, Bool.true_or, Bool.false_or, Bool.or_true, Bool.or_false])
        · simp only [h3]
          (try simp only [wAll, wpLc, wipeS, zipS, enmS, OV.fz, reduceIte, List.getElem?_cons_zero, List.getElem?_cons_succ, List.set_cons_zero, List.set_cons_succ, Option.map_some, Option.map_none, if_true, if_false, Bool.false_eq_true, ite_true, ite_false, Bool.not_true, Bool.not_false, true_and, and_true, exists_eq_left, Bool.true_and, Bool.and_true, Bool.false_and, Bool.and_false, Bool.true_or, Bool.false_or, Bool.or_true, Bool.or_false])
      · simp only [h2]
        (try simp only [wAll, wpLc, wipeS, zipS, enmS, OV.fz, reduceIte, List.getElem?_cons_zero, List.getElem?_cons_succ, List.set_cons_zero, List.set_cons_succ, Option.map_some, Option.map_none, if_true, if_false, Bool.false_eq_true, ite_true, ite_false, Bool.not_true, Bool.not_false, true_and, and_true, exists_eq_left, Bool.true_and, Bool.and_true, Bool.false_and, Bool.and_false, Bool.true_or, Bool.false_or, Bool.or_true, Bool.or_false])
    · simp only [h1]
      (try simp only [wAll, wpLc, wipeS, zipS, enmS, OV.fz, reduceIte, List.getElem?_cons_zero, List.getElem?_cons_succ, List.set_cons_zero, List.set_cons_succ, Option.map_some, Option.map_none, if_true, if_false, Bool.false_eq_true, ite_true, ite_false, Bool.not_true, Bool.not_false, true_and, and_true, exists_eq_left, Bool.true_and, Bool.and_true, Bool.false_and, Bool.and_false, Bool.true_or, Bool.false_or, Bool.or_true, Bool.or_false])
  · simp only [h]
    (try simp only [wAll, wpLc, wipeS, zipS, enmS, OV.fz, reduceIte, List.getElem?_cons_zero, List.getElem?_cons_succ, List.set_cons_zero, List.set_cons_succ, Option.map_some, Option.map_none, if_true, if_false, Bool.false_eq_true, ite_true, ite_false, Bool.not_true, Bool.not_false, true_and, and_true, exists_eq_left, Bool.true_and, Bool.and_true, Bool.false_and, Bool.and_false, Bool.true_or, Bool.false_or, Bool.or_true, Bool.or_false])
def isSweep (ns : List Str) (d : PyData) : Bool := isRow d 0 3 && ((itms d).all (isRule ns) && (itms d).all fun e => isNone (itm e 2))
theorem s16 {k : Nat} {f d : PyData} {S : Store} {Q : SV → Store → Prop} (hf : areFields f = true) : WP (C (k + 6) 16 [.val f, .val d] S) Q ↔ Q (.val (.bool (isSweep (fsts (itms f)) d))) S := by
  unfold areFields at hf
  simp only [Bool.and_eq_true] at hf
  obtain ⟨f1, f2, _⟩ := hf
  have f3 : ∀ e ∈ itms f, ∃ x r, e = .tuple (.str x :: r) := fun e he => field_fst (List.all_eq_true.mp f2 e he)
  rw [u16]
  (try simp only [wAll, wpLc, wipeS, zipS, enmS, OV.fz, reduceIte, List.getElem?_cons_zero, List.getElem?_cons_succ, List.set_cons_zero, List.set_cons_succ, Option.map_some, Option.map_none, if_true, if_false, Bool.false_eq_true, ite_true, ite_false, Bool.not_true, Bool.not_false, true_and, and_true, exists_eq_left, Bool.true_and, Bool.and_true, Bool.false_and, Bool.and_false, Bool.true_or, Bool.false_or, Bool.or_true, Bool.or_false])
  simp only [s2, isSweep]
  by_cases h : isRow d 0 3 = true
  · simp only [h, seq_row h]
    (try simp only [wAll, wpLc, wipeS, zipS, enmS, OV.fz, reduceIte, List.getElem?_cons_zero, List.getElem?_cons_succ, List.set_cons_zero, List.set_cons_succ, Option.map_some, Option.map_none, if_true, if_false, Bool.false_eq_true, ite_true, ite_false, Bool.not_true, Bool.not_false, true_and, and_true, exists_eq_left, Bool.true_and, Bool.and_true, Bool.false_and, Bool.and_false, Bool.true_or, Bool.false_or, Bool.or_true, Bool.or_false])
    rw [lc_map (fun e => .bool (isRule (fsts (itms f)) e)) (ds := itms d) (fun e _ => by
      (try simp only [wAll, wpLc, wipeS, zipS, enmS, OV.fz, reduceIte, List.getElem?_cons_zero, List.getElem?_cons_succ, List.set_cons_zero, List.set_cons_succ, Option.map_some, Option.map_none, if_true, if_false, Bool.false_eq_true, ite_true, ite_false, Bool.not_true, Bool.not_false, true_and, and_true, exists_eq_left, Bool.true_and, Bool.and_true, Bool.false_and, Bool.and_false, Bool.true_or, Bool.false_or, Bool.or_true, Bool.or_false])
      rw [s14 f1 f3]
      (try simp only [wAll, wpLc, wipeS, zipS, enmS, OV.fz, reduceIte, List.getElem?_cons_zero, List.getElem?_cons_succ, List.set_cons_zero, List.set_cons_succ, Option.map_some, Option.map_none, if_true, if_false, Bool.false_eq_true, ite_true, ite_false, Bool.not_true, Bool.not_false, true_and, and_true, exists_eq_left, Bool.true_and, Bool.and_true, Bool.false_and, Bool.and_false, Bool.true_or, Bool.false_or, Bool.or_true, Bool.or_false])
      rw [s13]
      (try simp only [wAll, wpLc, wipeS, zipS, enmS, OV.fz, reduceIte, List.getElem?_cons_zero, List.getElem?_cons_succ, List.set_cons_zero, List.set_cons_succ, Option.map_some, Option.map_none, if_true, if_false, Bool.false_eq_true, ite_true, ite_false, Bool.not_true, Bool.not_false, true_and, and_true, exists_eq_left, Bool.true_and, Bool.and_true, Bool.false_and, Bool.and_false, Bool.true_or, Bool.false_or, Bool.or_true, Bool.or_false])), allB]
    (try simp only [wAll, wpLc, wipeS, zipS, enmS, OV.fz, reduceIte, List.getElem?_cons_zero, List.getElem?_cons_succ, List.set_cons_zero, List.set_cons_succ, Option.map_some, Option.map_none, if_true, if_false, Bool.false_eq_true, ite_true, ite_false, Bool.not_true, Bool.not_false, true_and, and_true, exists_eq_left, Bool.true_and, Bool.and_true, Bool.false_and, Bool.and_false, Bool.true_or, Bool.false_or, Bool.or_true, Bool.or_false])
    by_cases ha : (itms d).all (isRule (fsts (itms f))) = true
    · simp only [ha]
      (try simp only [wAll, wpLc, wipeS, zipS, enmS, OV.fz, reduceIte, List.getElem?_cons_zero, List.getElem?_cons_succ, List.set_cons_zero, List.set_cons_succ, Option.map_some, Option.map_none, if_true, if_false, Bool.false_eq_true, ite_true, ite_false, Bool.not_true, Bool.not_false, true_and, and_true, exists_eq_left, Bool.true_and, Bool.and_true, Bool.false_and, Bool.and_false, Bool.true_or, Bool.false_or, Bool.or_true, Bool.or_false])
      rw [lc_map (fun e => .bool (isNone (itm e 2))) (ds := itms d) (fun e he => by
        have := List.all_eq_true.mp ha e he
        unfold isRule at this
        simp only [Bool.and_eq_true] at this
        (try simp only [wAll, wpLc, wipeS, zipS, enmS, OV.fz, reduceIte, List.getElem?_cons_zero, List.getElem?_cons_succ, List.set_cons_zero, List.set_cons_succ, Option.map_some, Option.map_none, if_true, if_false, Bool.false_eq_true, ite_true, ite_false, Bool.not_true, Bool.not_false, true_and, and_true, exists_eq_left, Bool.true_and, Bool.and_true, Bool.false_and, Bool.and_false, Bool.true_or, Bool.false_or, Bool.or_true, Bool.or_false])
        rw [row_sub2 this.1]
        (try simp only [wAll, wpLc, wipeS, zipS, enmS, OV.fz, reduceIte, List.getElem?_cons_zero, List.getElem?_cons_succ, List.set_cons_zero, List.set_cons_succ, Option.map_some, Option.map_none, if_true, if_false, Bool.false_eq_true, ite_true, ite_false, Bool.not_true, Bool.not_false, true_and, and_true, exists_eq_left, Bool.true_and, Bool.and_true, Bool.false_and, Bool.and_false, Bool.true_or, Bool.false_or, Bool.or_true, Bool.or_false])
        rfl), allB]
      (try simp only [wAll, wpLc, wipeS, zipS, enmS, OV.fz, reduceIte, List.getElem?_cons_zero, List.getElem?_cons_succ, List.set_cons_zero, List.set_cons_succ, Option.map_some, Option.map_none, if_true, if_false, Bool.false_eq_true, ite_true, ite_false, Bool.not_true, Bool.not_false, true_and, and_true, exists_eq_left, Bool.true_and, Bool.and_true, Bool.false_and, Bool.and_false, Bool.true_or, Bool.false_or, Bool.or_true, Bool.or_false])
    · simp only [ha]
      (try simp only [wAll, wpLc, wipeS, zipS, enmS, OV.fz, reduceIte, List.getElem?_cons_zero, List.getElem?_cons_succ, List.set_cons_zero, List.set_cons_succ, Option.map_some, Option.map_none, if_true, if_false, Bool.false_eq_true, ite_true, ite_false, Bool.not_true, Bool.not_false, true_and, and_true, exists_eq_left, Bool.true_and, Bool.and_true, Bool.false_and, Bool.and_false, Bool.true_or, Bool.false_or, Bool.or_true, Bool.or_false])
  · simp only [h]
    (try simp only [wAll, wpLc, wipeS, zipS, enmS, OV.fz, reduceIte, List.getElem?_cons_zero, List.getElem?_cons_succ, List.set_cons_zero, List.set_cons_succ, Option.map_some, Option.map_none, if_true, if_false, Bool.false_eq_true, ite_true, ite_false, Bool.not_true, Bool.not_false, true_and, and_true, exists_eq_left, Bool.true_and, Bool.and_true, Bool.false_and, Bool.and_false, Bool.true_or, Bool.false_or, Bool.or_true, Bool.or_false])
def isEd (d : PyData) : Bool := isRow d 4 4 && ((areFields (itm d 0) && isManner (itm d 1)) && ((isRow (itm d 2) 1 4 && (itms (itm d 2)).all (isAsk (fsts (itms (itm d 0))))) && (asc (fsts (itms (itm d 2))) && isSweep (fsts (itms (itm d 0))) (itm d 3))))
theorem ask_fst {ns : List Str} {d : PyData} (h : isAsk ns d = true) : ∃ x r, d = .tuple (.str x :: r) := by
  unfold isAsk at h
  simp only [Bool.and_eq_true] at h
  exact row_fst h.1 (by decide) h.2.1.1
theorem s17 {k : Nat} {d : PyData} {S : Store} {Q : SV → Store → Prop} : WP (C (k + 7) 17 [.val d] S) Q ↔ Q (.val (.bool (isEd d))) S := by
  rw [u17]
  (try simp only [wAll, wpLc, wipeS, zipS, enmS, OV.fz, reduceIte, List.getElem?_cons_zero, List.getElem?_cons_succ, List.set_cons_zero, List.set_cons_succ, Option.map_some, Option.map_none, if_true, if_false, Bool.false_eq_true, ite_true, ite_false, Bool.not_true, Bool.not_false, true_and, and_true, exists_eq_left, Bool.true_and, Bool.and_true, Bool.false_and, Bool.and_false, Bool.true_or, Bool.false_or, Bool.or_true, Bool.or_false])
  simp only [s2, isEd]
  by_cases h : isRow d 4 4 = true
  · simp only [h, row_sub0 h, row_sub1 h, row_sub2 h, row_sub3 h]
    (try simp only [wAll, wpLc, wipeS, zipS, enmS, OV.fz, reduceIte, List.getElem?_cons_zero, List.getElem?_cons_succ, List.set_cons_zero, List.set_cons_succ, Option.map_some, Option.map_none, if_true, if_false, Bool.false_eq_true, ite_true, ite_false, Bool.not_true, Bool.not_false, true_and, and_true, exists_eq_left, Bool.true_and, Bool.and_true, Bool.false_and, Bool.and_false, Bool.true_or, Bool.false_or, Bool.or_true, Bool.or_false])
    simp only [s7, s8]
    (try simp only [wAll, wpLc, wipeS, zipS, enmS, OV.fz, reduceIte, List.getElem?_cons_zero, List.getElem?_cons_succ, List.set_cons_zero, List.set_cons_succ, Option.map_some, Option.map_none, if_true, if_false, Bool.false_eq_true, ite_true, ite_false, Bool.not_true, Bool.not_false, true_and, and_true, exists_eq_left, Bool.true_and, Bool.and_true, Bool.false_and, Bool.and_false, Bool.true_or, Bool.false_or, Bool.or_true, Bool.or_false])
    by_cases h0 : areFields (itm d 0) = true
    · simp only [h0]
      (try simp only [wAll, wpLc, wipeS, zipS, enmS, OV.fz, reduceIte, List.getElem?_cons_zero, List.getElem?_cons_succ, List.set_cons_zero, List.set_cons_succ, Option.map_some, Option.map_none, if_true, if_false, Bool.false_eq_true, ite_true, ite_false, Bool.not_true, Bool.not_false, true_and, and_true, exists_eq_left, Bool.true_and, Bool.and_true, Bool.false_and, Bool.and_false, Bool.true_or, Bool.false_or, Bool.or_true, Bool.or_false])
      by_cases h1 : isManner (itm d 1) = true
      · simp only [h1]
        (try simp only [wAll, wpLc, wipeS, zipS, enmS, OV.fz, reduceIte, List.getElem?_cons_zero, List.getElem?_cons_succ, List.set_cons_zero, List.set_cons_succ, Option.map_some, Option.map_none, if_true, if_false, Bool.false_eq_true, ite_true, ite_false, Bool.not_true, Bool.not_false, true_and, and_true, exists_eq_left, Bool.true_and, Bool.and_true, Bool.false_and, Bool.and_false, Bool.true_or, Bool.false_or, Bool.or_true, Bool.or_false])
        simp only [s2]
        (try simp only [wAll, wpLc, wipeS, zipS, enmS, OV.fz, reduceIte, List.getElem?_cons_zero, List.getElem?_cons_succ, List.set_cons_zero, List.set_cons_succ, Option.map_some, Option.map_none, if_true, if_false, Bool.false_eq_true, ite_true, ite_false, Bool.not_true, Bool.not_false, true_and, and_true, exists_eq_left, Bool.true_and, Bool.and_true, Bool.false_and, Bool.and_false, Bool.true_or, Bool.false_or, Bool.or_true, Bool.or_false])
        by_cases h2 : isRow (itm d 2) 1 4 = true
        · simp only [h2, seq_row h2]
          (try simp only [wAll, wpLc, wipeS, zipS, enmS, OV.fz, reduceIte, List.getElem?_cons_zero, List.getElem?_cons_succ, List.set_cons_zero, List.set_cons_succ, Option.map_some, Option.map_none, if_true, if_false, Bool.false_eq_true, ite_true, ite_false, Bool.not_true, Bool.not_false, true_and, and_true, exists_eq_left, Bool.true_and, Bool.and_true, Bool.false_and, Bool.and_false, Bool.true_or, Bool.false_or, Bool.or_true, Bool.or_false])
          rw [lc_map (fun e => .bool (isAsk (fsts (itms (itm d 0))) e)) (ds := itms (itm d 2)) (fun e _ => by
            (try simp only [wAll, wpLc, wipeS, zipS, enmS, OV.fz, reduceIte, List.getElem?_cons_zero, List.getElem?_cons_succ, List.set_cons_zero, List.set_cons_succ, Option.map_some, Option.map_none, if_true, if_false, Bool.false_eq_true, ite_true, ite_false, Bool.not_true, Bool.not_false, true_and, and_true, exists_eq_left, Bool.true_and, Bool.and_true, Bool.false_and, Bool.and_false, Bool.true_or, Bool.false_or, Bool.or_true, Bool.or_false])
            rw [row_sub0 h]
            (try simp only [wAll, wpLc, wipeS, zipS, enmS, OV.fz, reduceIte, List.getElem?_cons_zero, List.getElem?_cons_succ, List.set_cons_zero, List.set_cons_succ, Option.map_some, Option.map_none, if_true, if_false, Bool.false_eq_true, ite_true, ite_false, Bool.not_true, Bool.not_false, true_and, and_true, exists_eq_left, Bool.true_and, Bool.and_true, Bool.false_and, Bool.and_false, Bool.true_or, Bool.false_or, Bool.or_true, Bool.or_false])
            rw [s15 h0]
            (try simp only [wAll, wpLc, wipeS, zipS, enmS, OV.fz, reduceIte, List.getElem?_cons_zero, List.getElem?_cons_succ, List.set_cons_zero, List.set_cons_succ, Option.map_some, Option.map_none, if_true, if_false, Bool.false_eq_true, ite_true, ite_false, Bool.not_true, Bool.not_false, true_and, and_true, exists_eq_left, Bool.true_and, Bool.and_true, Bool.false_and, Bool.and_false, Bool.true_or, Bool.false_or, Bool.or_true, Bool.or_false])), allB]
          (try simp only [wAll, wpLc, wipeS, zipS, enmS, OV.fz, reduceIte, List.getElem?_cons_zero, List.getElem?_cons_succ, List.set_cons_zero, List.set_cons_succ, Option.map_some, Option.map_none, if_true, if_false, Bool.false_eq_true, ite_true, ite_false, Bool.not_true, Bool.not_false, true_and, and_true, exists_eq_left, Bool.true_and, Bool.and_true, Bool.false_and, Bool.and_false, Bool.true_or, Bool.false_or, Bool.or_true, Bool.or_false])
          by_cases ha : (itms (itm d 2)).all (isAsk (fsts (itms (itm d 0)))) = true
          · simp only [ha]
            (try simp only [wAll, wpLc, wipeS, zipS, enmS, OV.fz, reduceIte, List.getElem?_cons_zero, List.getElem?_cons_succ, List.set_cons_zero, List.set_cons_succ, Option.map_some, Option.map_none, if_true, if_false, Bool.false_eq_true, ite_true, ite_false, Bool.not_true, Bool.not_false, true_and, and_true, exists_eq_left, Bool.true_and, Bool.and_true, Bool.false_and, Bool.and_false, Bool.true_or, Bool.false_or, Bool.or_true, Bool.or_false])
            rw [lc_fst (by simp) fun e he => ask_fst (List.all_eq_true.mp ha e he)]
            simp only [s3]
            (try simp only [wAll, wpLc, wipeS, zipS, enmS, OV.fz, reduceIte, List.getElem?_cons_zero, List.getElem?_cons_succ, List.set_cons_zero, List.set_cons_succ, Option.map_some, Option.map_none, if_true, if_false, Bool.false_eq_true, ite_true, ite_false, Bool.not_true, Bool.not_false, true_and, and_true, exists_eq_left, Bool.true_and, Bool.and_true, Bool.false_and, Bool.and_false, Bool.true_or, Bool.false_or, Bool.or_true, Bool.or_false])
            rw [s16 h0]
            (try simp only [wAll, wpLc, wipeS, zipS, enmS, OV.fz, reduceIte, List.getElem?_cons_zero, List.getElem?_cons_succ, List.set_cons_zero, List.set_cons_succ, Option.map_some, Option.map_none, if_true, if_false, Bool.false_eq_true, ite_true, ite_false, Bool.not_true, Bool.not_false, true_and, and_true, exists_eq_left, Bool.true_and, Bool.and_true, Bool.false_and, Bool.and_false, Bool.true_or, Bool.false_or, Bool.or_true, Bool.or_false])
            rfl
          · simp only [ha]
            (try simp only [wAll, wpLc, wipeS, zipS, enmS, OV.fz, reduceIte, List.getElem?_cons_zero, List.getElem?_cons_succ, List.set_cons_zero, List.set_cons_succ, Option.map_some, Option.map_none, if_true, if_false, Bool.false_eq_true, ite_true, ite_false, Bool.not_true, Bool.not_false, true_and, and_true, exists_eq_left, Bool.true_and, Bool.and_true, Bool.false_and, Bool.and_false, Bool.true_or, Bool.false_or, Bool.or_true, Bool.or_false])
        · simp only [h2]
          (try simp only [wAll, wpLc, wipeS, zipS, enmS, OV.fz, reduceIte, List.getElem?_cons_zero, List.getElem?_cons_succ, List.set_cons_zero, List.set_cons_succ, Option.map_some, Option.map_none, if_true, if_false, Bool.false_eq_true, ite_true, ite_false, Bool.not_true, Bool.not_false, true_and, and_true, exists_eq_left, Bool.true_and, Bool.and_true, Bool.false_and, Bool.and_false, Bool.true_or, Bool.false_or, Bool.or_true, Bool.or_false])
      · simp only [h1]
        (try simp only [wAll, wpLc, wipeS, zipS, enmS, OV.fz, reduceIte, List.getElem?_cons_zero, List.getElem?_cons_succ, List.set_cons_zero, List.set_cons_succ, Option.map_some, Option.map_none, if_true, if_false, Bool.false_eq_true, ite_true, ite_false, Bool.not_true, Bool.not_false, true_and, and_true, exists_eq_left, Bool.true_and, Bool.and_true, Bool.false_and, Bool.and_false, Bool.true_or, Bool.false_or, Bool.or_true, Bool.or_false])
    · simp only [h0]
      (try simp only [wAll, wpLc, wipeS, zipS, enmS, OV.fz, reduceIte, List.getElem?_cons_zero, List.getElem?_cons_succ, List.set_cons_zero, List.set_cons_succ, Option.map_some, Option.map_none, if_true, if_false, Bool.false_eq_true, ite_true, ite_false, Bool.not_true, Bool.not_false, true_and, and_true, exists_eq_left, Bool.true_and, Bool.and_true, Bool.false_and, Bool.and_false, Bool.true_or, Bool.false_or, Bool.or_true, Bool.or_false])
  · simp only [h]
    (try simp only [wAll, wpLc, wipeS, zipS, enmS, OV.fz, reduceIte, List.getElem?_cons_zero, List.getElem?_cons_succ, List.set_cons_zero, List.set_cons_succ, Option.map_some, Option.map_none, if_true, if_false, Bool.false_eq_true, ite_true, ite_false, Bool.not_true, Bool.not_false, true_and, and_true, exists_eq_left, Bool.true_and, Bool.and_true, Bool.false_and, Bool.and_false, Bool.true_or, Bool.false_or, Bool.or_true, Bool.or_false])

theorem ls_words : lstS [.val (.str "arg"), .val (.str "ask"), .val (.str "field"), .val (.str "manner"), .val (.str "refuse"), .val (.str "rule"), .val (.str "set"), .val (.str "sum"), .val (.str "sweep"), .val (.str "tell"), .val (.str "when")] = some (wordsL.map .str) := rfl
theorem words_eq : [PyData.str "arg", .str "ask", .str "field", .str "manner", .str "refuse", .str "rule", .str "set", .str "sum", .str "sweep", .str "tell", .str "when"] = wordsL.map .str := rfl
theorem frz_at {i : Nat} {sl : Slots} {o : OV} (h : sl[i]? = some (some (.own o))) : frzS i sl = sl.set i (some o.fz) := by
  unfold frzS; rw [h]
theorem asc_range (xs : List Str) : asc xs = (List.range (xs.length - 1)).all fun i => ltS (xs.getD i Str.empty) (xs.getD (i + 1) Str.empty) := by
  unfold asc
  have : xs.zip (xs.drop 1) = (List.range (xs.length - 1)).map fun i => (xs.getD i Str.empty, xs.getD (i + 1) Str.empty) := by
    apply List.ext_getElem
    · simp
    · intro i h1 h2
      have hi : i + 1 < xs.length := by simp at h2; omega
      simp only [List.getElem_zip, List.getElem_drop, List.getElem_map, List.getElem_range]
      rw [List.getD_eq_getElem?_getD, List.getD_eq_getElem?_getD, List.getElem?_eq_getElem (by omega), List.getElem?_eq_getElem hi]
      simp only [Option.getD_some]
      congr 2
      omega
  rw [this, List.all_map]
  rfl
theorem str_at {xs : List Str} {i : Int} (j : Nat) (h : i = (j : Int)) (hl : j < xs.length) : atI (xs.map PyData.str) i = some (.str (xs.getD j Str.empty)) := by
  rw [atI_get h (by simpa using hl)]
  simp [List.getD_eq_getElem?_getD, List.getElem?_eq_getElem hl]
theorem isRow_le {d : PyData} (h : isTup d = true) (n : Int) : isRow d 0 n = !decide (n < ((itms d).length : Int)) := by
  rw [isTup_eq h]
  show (decide ((0 : Int) ≤ (((itms d).length : Nat) : Int)) && decide ((((itms d).length : Nat) : Int) ≤ n)) = !decide (n < (((itms d).length : Nat) : Int))
  rw [Bool.eq_iff_iff]
  simp only [Bool.and_eq_true, decide_eq_true_eq, Bool.not_eq_true', decide_eq_false_iff_not]
  omega
theorem isRow_bet {d : PyData} (h : isTup d = true) (m n : Int) : isRow d m n = (decide (m ≤ ((itms d).length : Int)) && decide (((itms d).length : Int) ≤ n)) := by
  conv => lhs; rw [isTup_eq h]
  rfl
theorem isRow_no {d : PyData} (h : ¬ isTup d = true) (m n : Int) : isRow d m n = false := by
  cases d with
  | tuple ds => exact absurd rfl h
  | _ => rfl
theorem seq_tup {d : PyData} (h : isTup d = true) : seqD (.val d) = some (itms d) := by
  rw [isTup_eq h]; rfl
theorem drop1 {d : PyData} {lo hi : Int} (h : isRow d lo hi = true) : slcS (.sv (.val d)) (some 1) none = some (.sv (.val (.tuple ((itms d).drop 1)))) := by
  rw [(isRow_tup h).1, o_slct, cut1]
  rfl
theorem row3 {d : PyData} (h : isRow d 3 3 = true) : itms d = [itm d 0, itm d 1, itm d 2] := by
  obtain ⟨h1, h2, h3⟩ := isRow_tup h
  unfold itm
  match itms d, h2, h3 with
  | [a, b, c], _, _ => rfl
  | [], h, _ => simp at h
  | [_], h, _ => simp at h
  | [_, _], h, _ => simp at h
  | _ :: _ :: _ :: _ :: r, _, h => simp at h; omega
theorem fin_if {a b : Bool} {d : PyData} {S : Store} : (if b = true then (some d : Option PyData) = (if a = true then none else some d) ∧ S = S else (none : Option PyData) = (if a = true then none else some d) ∧ S = S) ↔ b = !a := by
  cases a <;> cases b <;> simp
theorem strE {x y : Str} : (.str x : PyData) = .str y ↔ x = y := by simp
/-- a loop that leaves early and folds -/
theorem forGo_allF {α : Type} {f : PyData → Slots → Store → Option Out} {S : Store} {v : SV} (p : PyData → Bool) (g : α → PyData → α) (mk : α → Slots) : ∀ {ds : List PyData} {a : α}, (∀ d ∈ ds, ∀ a, op1 (f d (mk a) S) fun o => if p d = true then o = .nx (mk (g a d)) S else o = .ret v S) →
    forGo f ds (mk a) S = some (if ds.all p = true then .nx (mk (ds.foldl g a)) S else .ret v S)
  | [], a, _ => rfl
  | d :: ds, a, h => by
    obtain ⟨o, e, q⟩ := h d List.mem_cons_self a
    rw [List.all_cons]
    unfold forGo
    rw [e]
    cases hp : p d with
    | true =>
      rw [hp, if_pos rfl] at q
      subst q
      exact forGo_allF p g mk fun d hd a => h d (List.mem_cons_of_mem _ hd) a
    | false =>
      rw [hp, if_neg Bool.false_ne_true] at q
      subst q
      rfl
/-- a bag -/
def Bag (S : Store) (r : Nat) : Prop := ∃ a b : Int, S[r]? = some [.int a, .int b]
theorem bag_set {S : Store} {r : Nat} {a b : Int} (h : Bag S r) : Bag (S.set r [.int a, .int b]) r := by
  obtain ⟨x, y, e⟩ := h
  exact ⟨a, b, List.getElem?_set_self (List.getElem?_eq_some_iff.mp e).1⟩
theorem b19 {k r : Nat} {c : Int} {S : Store} {Q : SV → Store → Prop} (hb : Bag S r) (hc : 0 < c) (hc2 : c < 1073741824) (h : ∀ z S', Bag S' r → 0 ≤ z → z < c → Q (.val (.int z)) S') : WP (C (k + 1) 19 [.cell r, .val (.int c)] S) Q := by
  rw [u19]
  obtain ⟨a, b, e⟩ := hb
  have hl : r < S.length := (List.getElem?_eq_some_iff.mp e).1
  have at0 : ∀ x y : Int, atI [PyData.int x, PyData.int y] 0 = some (.int x) := fun _ _ => rfl
  have at1 : ∀ x y : Int, atI [PyData.int x, PyData.int y] 1 = some (.int y) := fun _ _ => rfl
  have ix0 : ixN 2 0 = some 0 := rfl
  have ix1 : ixN 2 1 = some 1 := rfl
  have hmod : ∀ x : Int, 0 ≤ x % c ∧ x % c < c := fun x => ⟨Int.emod_nonneg _ (by omega), Int.emod_lt_of_pos _ hc⟩
  (try simp only [wAll, wpLc, wipeS, zipS, enmS, OV.fz, reduceIte, List.getElem?_cons_zero, List.getElem?_cons_succ, List.set_cons_zero, List.set_cons_succ, Option.map_some, Option.map_none, if_true, if_false, Bool.false_eq_true, ite_true, ite_false, Bool.not_true, Bool.not_false, true_and, and_true, exists_eq_left, Bool.true_and, Bool.and_true, Bool.false_and, Bool.and_false, Bool.true_or, Bool.false_or, Bool.or_true, Bool.or_false])
  simp only [o_subc, e, at0, at1]
  (try simp only [wAll, wpLc, wipeS, zipS, enmS, OV.fz, reduceIte, List.getElem?_cons_zero, List.getElem?_cons_succ, List.set_cons_zero, List.set_cons_succ, Option.map_some, Option.map_none, if_true, if_false, Bool.false_eq_true, ite_true, ite_false, Bool.not_true, Bool.not_false, true_and, and_true, exists_eq_left, Bool.true_and, Bool.and_true, Bool.false_and, Bool.and_false, Bool.true_or, Bool.false_or, Bool.or_true, Bool.or_false])
  by_cases h0 : 0 < a
  · simp only [h0, decide_true]
    (try simp only [wAll, wpLc, wipeS, zipS, enmS, OV.fz, reduceIte, List.getElem?_cons_zero, List.getElem?_cons_succ, List.set_cons_zero, List.set_cons_succ, Option.map_some, Option.map_none, if_true, if_false, Bool.false_eq_true, ite_true, ite_false, Bool.not_true, Bool.not_false, true_and, and_true, exists_eq_left, Bool.true_and, Bool.and_true, Bool.false_and, Bool.and_false, Bool.true_or, Bool.false_or, Bool.or_true, Bool.or_false])
    simp only [putS, List.getElem?_cons_zero, e, List.length_cons, List.length_nil, ix0]
    (try simp only [wAll, wpLc, wipeS, zipS, enmS, OV.fz, reduceIte, List.getElem?_cons_zero, List.getElem?_cons_succ, List.set_cons_zero, List.set_cons_succ, Option.map_some, Option.map_none, if_true, if_false, Bool.false_eq_true, ite_true, ite_false, Bool.not_true, Bool.not_false, true_and, and_true, exists_eq_left, Bool.true_and, Bool.and_true, Bool.false_and, Bool.and_false, Bool.true_or, Bool.false_or, Bool.or_true, Bool.or_false])
    exact ⟨hc, ⟨hc, hc2⟩, h _ _ (bag_set ⟨a, b, e⟩) (hmod a).1 (hmod a).2⟩
  · simp only [h0, decide_false]
    (try simp only [wAll, wpLc, wipeS, zipS, enmS, OV.fz, reduceIte, List.getElem?_cons_zero, List.getElem?_cons_succ, List.set_cons_zero, List.set_cons_succ, Option.map_some, Option.map_none, if_true, if_false, Bool.false_eq_true, ite_true, ite_false, Bool.not_true, Bool.not_false, true_and, and_true, exists_eq_left, Bool.true_and, Bool.and_true, Bool.false_and, Bool.and_false, Bool.true_or, Bool.false_or, Bool.or_true, Bool.or_false])
    simp only [putS, List.getElem?_cons_zero, e, List.length_cons, List.length_nil, ix1]
    (try simp only [wAll, wpLc, wipeS, zipS, enmS, OV.fz, reduceIte, List.getElem?_cons_zero, List.getElem?_cons_succ, List.set_cons_zero, List.set_cons_succ, Option.map_some, Option.map_none, if_true, if_false, Bool.false_eq_true, ite_true, ite_false, Bool.not_true, Bool.not_false, true_and, and_true, exists_eq_left, Bool.true_and, Bool.and_true, Bool.false_and, Bool.and_false, Bool.true_or, Bool.false_or, Bool.or_true, Bool.or_false])
    have e2 : ∀ x y : Int, (S.set r [PyData.int x, PyData.int y])[r]? = some [.int x, .int y] := fun x y => List.getElem?_set_self hl
    simp only [o_subc, List.set_cons_succ, List.set_cons_zero, e2, at0, at1, frzS]
    (try simp only [wAll, wpLc, wipeS, zipS, enmS, OV.fz, reduceIte, List.getElem?_cons_zero, List.getElem?_cons_succ, List.set_cons_zero, List.set_cons_succ, Option.map_some, Option.map_none, if_true, if_false, Bool.false_eq_true, ite_true, ite_false, Bool.not_true, Bool.not_false, true_and, and_true, exists_eq_left, Bool.true_and, Bool.and_true, Bool.false_and, Bool.and_false, Bool.true_or, Bool.false_or, Bool.or_true, Bool.or_false])
    generalize hx : b * 48271 % 2147483647 = x
    have h1 := Int.emod_nonneg x (b := 32749) (by decide)
    have h2 := Int.emod_lt_of_pos x (b := 32749) (by decide)
    refine ⟨.inr (by constructor <;> decide), by decide, by decide, by decide, .inr (by omega), by decide, by decide, hc, ?_⟩
    exact h _ _ (bag_set ⟨a, b, e⟩) (hmod _).1 (hmod _).2
theorem b20 {k r : Nat} {ds : List PyData} {S : Store} {Q : SV → Store → Prop} (hb : Bag S r) (hn : ds ≠ []) (hl : ds.length < 1073741824) (h : ∀ d ∈ ds, ∀ S', Bag S' r → Q (.val d) S') : WP (C (k + 2) 20 [.cell r, .val (.list ds)] S) Q := by
  rw [u20]
  (try simp only [wAll, wpLc, wipeS, zipS, enmS, OV.fz, reduceIte, List.getElem?_cons_zero, List.getElem?_cons_succ, List.set_cons_zero, List.set_cons_succ, Option.map_some, Option.map_none, if_true, if_false, Bool.false_eq_true, ite_true, ite_false, Bool.not_true, Bool.not_false, true_and, and_true, exists_eq_left, Bool.true_and, Bool.and_true, Bool.false_and, Bool.and_false, Bool.true_or, Bool.false_or, Bool.or_true, Bool.or_false])
  have : 0 < ds.length := List.length_pos_iff.mpr hn
  refine b19 hb (by omega) (by omega) fun z S' hb' h0 h1 => ?_
  (try simp only [wAll, wpLc, wipeS, zipS, enmS, OV.fz, reduceIte, List.getElem?_cons_zero, List.getElem?_cons_succ, List.set_cons_zero, List.set_cons_succ, Option.map_some, Option.map_none, if_true, if_false, Bool.false_eq_true, ite_true, ite_false, Bool.not_true, Bool.not_false, true_and, and_true, exists_eq_left, Bool.true_and, Bool.and_true, Bool.false_and, Bool.and_false, Bool.true_or, Bool.false_or, Bool.or_true, Bool.or_false])
  rw [atI_get (i := z) (j := z.toNat) (by omega) (by omega)]
  (try simp only [wAll, wpLc, wipeS, zipS, enmS, OV.fz, reduceIte, List.getElem?_cons_zero, List.getElem?_cons_succ, List.set_cons_zero, List.set_cons_succ, Option.map_some, Option.map_none, if_true, if_false, Bool.false_eq_true, ite_true, ite_false, Bool.not_true, Bool.not_false, true_and, and_true, exists_eq_left, Bool.true_and, Bool.and_true, Bool.false_and, Bool.and_false, Bool.true_or, Bool.false_or, Bool.or_true, Bool.or_false])
  refine h _ ?_ S' hb'
  rw [List.getD_eq_getElem?_getD, List.getElem?_eq_getElem (by omega)]
  exact List.getElem_mem _
theorem b18 {k : Nat} {ns : List Int} {i : Int} {S : Store} {Q : SV → Store → Prop} (h0 : 0 ≤ i) (h1 : i < 1000) (h : ∀ r S', Bag S' r → Q (.cell r) S') : WP (C (k + 1) 18 [.scr ns, .val (.int i)] S) Q := by
  rw [u18]
  (try simp only [wAll, wpLc, wipeS, zipS, enmS, OV.fz, reduceIte, List.getElem?_cons_zero, List.getElem?_cons_succ, List.set_cons_zero, List.set_cons_succ, Option.map_some, Option.map_none, if_true, if_false, Bool.false_eq_true, ite_true, ite_false, Bool.not_true, Bool.not_false, true_and, and_true, exists_eq_left, Bool.true_and, Bool.and_true, Bool.false_and, Bool.and_false, Bool.true_or, Bool.false_or, Bool.or_true, Bool.or_false])
  have fin : ∀ (c : Int), WP (none : Option (SV × Store)) (fun _ _ => False) → True := fun _ _ => trivial
  have cel : ∀ (a b : Int) (S : Store), Bag (S ++ [[.int a, .int b]]) S.length := fun a b S => ⟨a, b, by simp⟩
  by_cases hi : i < (ns.length : Int)
  · simp only [hi, decide_true]
    (try simp only [wAll, wpLc, wipeS, zipS, enmS, OV.fz, reduceIte, List.getElem?_cons_zero, List.getElem?_cons_succ, List.set_cons_zero, List.set_cons_succ, Option.map_some, Option.map_none, if_true, if_false, Bool.false_eq_true, ite_true, ite_false, Bool.not_true, Bool.not_false, true_and, and_true, exists_eq_left, Bool.true_and, Bool.and_true, Bool.false_and, Bool.and_false, Bool.true_or, Bool.false_or, Bool.or_true, Bool.or_false])
    rw [atI_get (i := i) (j := i.toNat) (by omega) (by simp; omega)]
    have : (ns.map PyData.int).getD i.toNat .none = .int (ns.getD i.toNat 0) := by
      simp only [List.getD_eq_getElem?_getD, List.getElem?_map]
      rw [List.getElem?_eq_getElem (by omega)]
      rfl
    rw [this]
    (try simp only [wAll, frzS, wpLc, wipeS, zipS, enmS, OV.fz, reduceIte, List.getElem?_cons_zero, List.getElem?_cons_succ, List.set_cons_zero, List.set_cons_succ, Option.map_some, Option.map_none, if_true, if_false, Bool.false_eq_true, ite_true, ite_false, Bool.not_true, Bool.not_false, true_and, and_true, exists_eq_left, Bool.true_and, Bool.and_true, Bool.false_and, Bool.and_false, Bool.true_or, Bool.false_or, Bool.or_true, Bool.or_false])
    refine ⟨⟨by decide, by decide, by decide⟩, by decide, by decide, .inr ⟨by decide, by decide⟩, .inl ⟨by decide, by decide⟩, .inr ⟨by omega, by omega⟩, .inr ⟨by omega, by omega⟩, by decide, ⟨by decide, by decide, by decide⟩, ?_⟩
    split
    · exact h _ _ (cel _ _ _)
    · exact h _ _ (cel _ _ _)
  · simp only [hi, decide_false]
    (try simp only [wAll, frzS, wpLc, wipeS, zipS, enmS, OV.fz, reduceIte, List.getElem?_cons_zero, List.getElem?_cons_succ, List.set_cons_zero, List.set_cons_succ, Option.map_some, Option.map_none, if_true, if_false, Bool.false_eq_true, ite_true, ite_false, Bool.not_true, Bool.not_false, true_and, and_true, exists_eq_left, Bool.true_and, Bool.and_true, Bool.false_and, Bool.and_false, Bool.true_or, Bool.false_or, Bool.or_true, Bool.or_false])
    refine ⟨by decide, .inr ⟨by decide, by decide⟩, .inl ⟨by decide, by decide⟩, .inr ⟨by omega, by omega⟩, .inr ⟨by omega, by omega⟩, by decide, ⟨by decide, by decide, by decide⟩, ?_⟩
    split
    · exact h _ _ (cel _ _ _)
    · exact h _ _ (cel _ _ _)

theorem itm3 {a b c : PyData} : itm (.tuple [a, b, c]) 0 = a ∧ itm (.tuple [a, b, c]) 1 = b ∧ itm (.tuple [a, b, c]) 2 = c := ⟨rfl, rfl, rfl⟩
/-- four names, none twice -/
def poolB (xs : List Str) : Bool := decide (xs.length = 4) && (decide xs.Nodup && xs.all fun x => isNm (.str x))
theorem cutA {xs : List PyData} {i : Int} (j : Nat) (h : i = (j : Int)) (hj : j ≤ xs.length) : cutD xs (some i) none = xs.drop j ∧ cutD xs none (some i) = xs.take j := by
  subst h
  unfold cutD
  rw [HT.sIx_none, HT.sIx_none, HT.sIx_nat, Nat.min_eq_left hj]
  refine ⟨List.take_of_length_le (by rw [List.length_drop]; omega), by rw [HT.sIx_nat, Nat.min_eq_left hj]; simp⟩
theorem b21 {k r : Nat} {S : Store} {Q : SV → Store → Prop} (hb : Bag S r) (h : ∀ (xs : List Str) S', Bag S' r → poolB xs = true → Q (.val (.list (xs.map .str))) S') : WP (C (k + 3) 21 [.cell r] S) Q := by
  rw [u21]
  (try simp only [wAll, wpLc, wipeS, zipS, enmS, OV.fz, reduceIte, List.getElem?_cons_zero, List.getElem?_cons_succ, List.set_cons_zero, List.set_cons_succ, Option.map_some, Option.map_none, if_true, if_false, Bool.false_eq_true, ite_true, ite_false, Bool.not_true, Bool.not_false, true_and, and_true, exists_eq_left, Bool.true_and, Bool.and_true, Bool.false_and, Bool.and_false, Bool.true_or, Bool.false_or, Bool.or_true, Bool.or_false])
  refine b20 hb (by simp) (by simp) fun d hd S1 hb1 => ?_
  (try simp only [wAll, wpLc, wipeS, zipS, enmS, OV.fz, reduceIte, List.getElem?_cons_zero, List.getElem?_cons_succ, List.set_cons_zero, List.set_cons_succ, Option.map_some, Option.map_none, if_true, if_false, Bool.false_eq_true, ite_true, ite_false, Bool.not_true, Bool.not_false, true_and, and_true, exists_eq_left, Bool.true_and, Bool.and_true, Bool.false_and, Bool.and_false, Bool.true_or, Bool.false_or, Bool.or_true, Bool.or_false])
  refine b19 hb1 (by decide) (by decide) fun z S2 hb2 h0 h1 => ?_
  (try simp only [wAll, wpLc, wipeS, zipS, enmS, OV.fz, reduceIte, List.getElem?_cons_zero, List.getElem?_cons_succ, List.set_cons_zero, List.set_cons_succ, Option.map_some, Option.map_none, if_true, if_false, Bool.false_eq_true, ite_true, ite_false, Bool.not_true, Bool.not_false, true_and, and_true, exists_eq_left, Bool.true_and, Bool.and_true, Bool.false_and, Bool.and_false, Bool.true_or, Bool.false_or, Bool.or_true, Bool.or_false])
  have : ∃ p : List Str, d = .list (p.map .str) ∧ (∀ j : Nat, j < 4 → poolB (p.drop j ++ p.take j) = true) ∧ p.length = 4 := by
    simp only [List.mem_cons, List.not_mem_nil, or_false] at hd
    rcases hd with rfl | rfl | rfl
    · exact ⟨["n", "m", "tag", "kind"], rfl, by decide, rfl⟩
    · exact ⟨["a", "aa", "ab", "zzzzzzzz"], rfl, by decide, rfl⟩
    · exact ⟨["level", "mark", "owner", "state"], rfl, by decide, rfl⟩
  obtain ⟨p, rfl, hp, hl⟩ := this
  obtain ⟨j, rfl⟩ : ∃ j : Nat, z = (j : Int) := ⟨z.toNat, by omega⟩
  have hc := cutA (xs := p.map PyData.str) j rfl (by simp; omega)
  (try simp only [wAll, wpLc, wipeS, zipS, enmS, OV.fz, reduceIte, List.getElem?_cons_zero, List.getElem?_cons_succ, List.set_cons_zero, List.set_cons_succ, Option.map_some, Option.map_none, if_true, if_false, Bool.false_eq_true, ite_true, ite_false, Bool.not_true, Bool.not_false, true_and, and_true, exists_eq_left, Bool.true_and, Bool.and_true, Bool.false_and, Bool.and_false, Bool.true_or, Bool.false_or, Bool.or_true, Bool.or_false])
  rw [hc.1, hc.2, o_addnn, op1_if]
  refine ⟨by simp [hl]; show _ ≤ 16777216; omega, ?_⟩
  (try simp only [wAll, wpLc, wipeS, zipS, enmS, OV.fz, reduceIte, List.getElem?_cons_zero, List.getElem?_cons_succ, List.set_cons_zero, List.set_cons_succ, Option.map_some, Option.map_none, if_true, if_false, Bool.false_eq_true, ite_true, ite_false, Bool.not_true, Bool.not_false, true_and, and_true, exists_eq_left, Bool.true_and, Bool.and_true, Bool.false_and, Bool.and_false, Bool.true_or, Bool.false_or, Bool.or_true, Bool.or_false])
  rw [← List.map_drop, ← List.map_take, ← List.map_append]
  exact h _ _ hb2 (hp j (by omega))
/-- four names of asks, ascending -/
def askB (xs : List Str) : Bool := decide (xs.length = 4) && (asc xs && xs.all fun x => isNm (.str x))
theorem b22 {k r : Nat} {S : Store} {Q : SV → Store → Prop} (hb : Bag S r) (h : ∀ (xs : List Str) S', Bag S' r → askB xs = true → Q (.val (.list (xs.map .str))) S') : WP (C (k + 3) 22 [.cell r] S) Q := by
  rw [u22]
  (try simp only [wAll, wpLc, wipeS, zipS, enmS, OV.fz, reduceIte, List.getElem?_cons_zero, List.getElem?_cons_succ, List.set_cons_zero, List.set_cons_succ, Option.map_some, Option.map_none, if_true, if_false, Bool.false_eq_true, ite_true, ite_false, Bool.not_true, Bool.not_false, true_and, and_true, exists_eq_left, Bool.true_and, Bool.and_true, Bool.false_and, Bool.and_false, Bool.true_or, Bool.false_or, Bool.or_true, Bool.or_false])
  refine b20 hb (by simp) (by simp) fun d hd S1 hb1 => ?_
  simp only [List.mem_cons, List.not_mem_nil, or_false] at hd
  rcases hd with rfl | rfl | rfl
  · (try simp only [wAll, wpLc, wipeS, zipS, enmS, OV.fz, reduceIte, List.getElem?_cons_zero, List.getElem?_cons_succ, List.set_cons_zero, List.set_cons_succ, Option.map_some, Option.map_none, if_true, if_false, Bool.false_eq_true, ite_true, ite_false, Bool.not_true, Bool.not_false, true_and, and_true, exists_eq_left, Bool.true_and, Bool.and_true, Bool.false_and, Bool.and_false, Bool.true_or, Bool.false_or, Bool.or_true, Bool.or_false])
    exact h ["flip", "mark", "show", "tagged"] _ hb1 (by decide)
  · (try simp only [wAll, wpLc, wipeS, zipS, enmS, OV.fz, reduceIte, List.getElem?_cons_zero, List.getElem?_cons_succ, List.set_cons_zero, List.set_cons_succ, Option.map_some, Option.map_none, if_true, if_false, Bool.false_eq_true, ite_true, ite_false, Bool.not_true, Bool.not_false, true_and, and_true, exists_eq_left, Bool.true_and, Bool.and_true, Bool.false_and, Bool.and_false, Bool.true_or, Bool.false_or, Bool.or_true, Bool.or_false])
    exact h ["a", "b", "c", "d"] _ hb1 (by decide)
  · (try simp only [wAll, wpLc, wipeS, zipS, enmS, OV.fz, reduceIte, List.getElem?_cons_zero, List.getElem?_cons_succ, List.set_cons_zero, List.set_cons_succ, Option.map_some, Option.map_none, if_true, if_false, Bool.false_eq_true, ite_true, ite_false, Bool.not_true, Bool.not_false, true_and, and_true, exists_eq_left, Bool.true_and, Bool.and_true, Bool.false_and, Bool.and_false, Bool.true_or, Bool.false_or, Bool.or_true, Bool.or_false])
    exact h ["n", "put", "puts", "tag"] _ hb1 (by decide)
theorem b23 {k r : Nat} {ns : List Str} {S : Store} {Q : SV → Store → Prop} (hb : Bag S r) (hz : ns.length ≤ 1000) (h : ∀ d S', Bag S' r → isOpd ns d = true → Q (.val d) S') : WP (C (k + 3) 23 [.cell r, .val (.list (ns.map .str))] S) Q := by
  rw [u23]
  (try simp only [wAll, wpLc, wipeS, zipS, enmS, OV.fz, reduceIte, List.getElem?_cons_zero, List.getElem?_cons_succ, List.set_cons_zero, List.set_cons_succ, Option.map_some, Option.map_none, if_true, if_false, Bool.false_eq_true, ite_true, ite_false, Bool.not_true, Bool.not_false, true_and, and_true, exists_eq_left, Bool.true_and, Bool.and_true, Bool.false_and, Bool.and_false, Bool.true_or, Bool.false_or, Bool.or_true, Bool.or_false])
  refine b19 hb (by decide) (by decide) fun z S1 hb1 h0 h1 => ?_
  (try simp only [wAll, wpLc, wipeS, zipS, enmS, OV.fz, reduceIte, List.getElem?_cons_zero, List.getElem?_cons_succ, List.set_cons_zero, List.set_cons_succ, Option.map_some, Option.map_none, if_true, if_false, Bool.false_eq_true, ite_true, ite_false, Bool.not_true, Bool.not_false, true_and, and_true, exists_eq_left, Bool.true_and, Bool.and_true, Bool.false_and, Bool.and_false, Bool.true_or, Bool.false_or, Bool.or_true, Bool.or_false])
  simp only [o_addnn, op1_if, List.length_append, List.length_map, List.length_cons, List.length_nil, szL]
  (try simp only [wAll, wpLc, wipeS, zipS, enmS, OV.fz, reduceIte, List.getElem?_cons_zero, List.getElem?_cons_succ, List.set_cons_zero, List.set_cons_succ, Option.map_some, Option.map_none, if_true, if_false, Bool.false_eq_true, ite_true, ite_false, Bool.not_true, Bool.not_false, true_and, and_true, exists_eq_left, Bool.true_and, Bool.and_true, Bool.false_and, Bool.and_false, Bool.true_or, Bool.false_or, Bool.or_true, Bool.or_false])
  refine ⟨by omega, by omega, ?_⟩
  refine b20 hb1 (by simp) (by simp only [List.length_append, List.length_map, List.length_cons, List.length_nil]; omega) fun d hd S2 hb2 => ?_
  (try simp only [wAll, wpLc, wipeS, zipS, enmS, OV.fz, reduceIte, List.getElem?_cons_zero, List.getElem?_cons_succ, List.set_cons_zero, List.set_cons_succ, Option.map_some, Option.map_none, if_true, if_false, Bool.false_eq_true, ite_true, ite_false, Bool.not_true, Bool.not_false, true_and, and_true, exists_eq_left, Bool.true_and, Bool.and_true, Bool.false_and, Bool.and_false, Bool.true_or, Bool.false_or, Bool.or_true, Bool.or_false])
  refine h d _ hb2 ?_
  simp only [List.mem_append, List.mem_cons, List.not_mem_nil, or_false, List.mem_map] at hd
  rcases hd with ((rfl | rfl | rfl) | ⟨x, hx, rfl⟩) | ⟨x, hx, rfl⟩
  · rfl
  · rfl
  · simp only [isOpd, isInt, Bool.and_eq_true, decide_eq_true_eq]
    omega
  · simp only [isOpd, decide_eq_true_eq]; exact hx
  · simp only [isOpd, decide_eq_true_eq]; exact hx
theorem opd_term {ns : List Str} {d : PyData} (h : isOpd ns d = true) : isTerm ns d = true := by
  unfold isTerm
  cases d with
  | tuple ds => cases h
  | _ => exact h
theorem b24 {k r : Nat} {ns : List Str} {S : Store} {Q : SV → Store → Prop} (hb : Bag S r) (hz : ns.length ≤ 1000) (h : ∀ d S', Bag S' r → isTerm ns d = true → Q (.val d) S') : WP (C (k + 4) 24 [.cell r, .val (.list (ns.map .str))] S) Q := by
  rw [u24]
  (try simp only [wAll, wpLc, wipeS, zipS, enmS, OV.fz, reduceIte, List.getElem?_cons_zero, List.getElem?_cons_succ, List.set_cons_zero, List.set_cons_succ, Option.map_some, Option.map_none, if_true, if_false, Bool.false_eq_true, ite_true, ite_false, Bool.not_true, Bool.not_false, true_and, and_true, exists_eq_left, Bool.true_and, Bool.and_true, Bool.false_and, Bool.and_false, Bool.true_or, Bool.false_or, Bool.or_true, Bool.or_false])
  refine b19 hb (by decide) (by decide) fun z S1 hb1 h0 h1 => ?_
  (try simp only [wAll, wpLc, wipeS, zipS, enmS, OV.fz, reduceIte, List.getElem?_cons_zero, List.getElem?_cons_succ, List.set_cons_zero, List.set_cons_succ, Option.map_some, Option.map_none, if_true, if_false, Bool.false_eq_true, ite_true, ite_false, Bool.not_true, Bool.not_false, true_and, and_true, exists_eq_left, Bool.true_and, Bool.and_true, Bool.false_and, Bool.and_false, Bool.true_or, Bool.false_or, Bool.or_true, Bool.or_false])
  split
  · refine b23 hb1 hz fun a S2 hb2 ha => ?_
    (try simp only [wAll, wpLc, wipeS, zipS, enmS, OV.fz, reduceIte, List.getElem?_cons_zero, List.getElem?_cons_succ, List.set_cons_zero, List.set_cons_succ, Option.map_some, Option.map_none, if_true, if_false, Bool.false_eq_true, ite_true, ite_false, Bool.not_true, Bool.not_false, true_and, and_true, exists_eq_left, Bool.true_and, Bool.and_true, Bool.false_and, Bool.and_false, Bool.true_or, Bool.false_or, Bool.or_true, Bool.or_false])
    refine b23 hb2 hz fun b S3 hb3 hb => ?_
    (try simp only [wAll, wpLc, wipeS, zipS, enmS, OV.fz, reduceIte, List.getElem?_cons_zero, List.getElem?_cons_succ, List.set_cons_zero, List.set_cons_succ, Option.map_some, Option.map_none, if_true, if_false, Bool.false_eq_true, ite_true, ite_false, Bool.not_true, Bool.not_false, true_and, and_true, exists_eq_left, Bool.true_and, Bool.and_true, Bool.false_and, Bool.and_false, Bool.true_or, Bool.false_or, Bool.or_true, Bool.or_false])
    refine h _ _ hb3 ?_
    show (isRow (.tuple [.str "sum", a, b]) 3 3 && (isStrE (.str "sum") "sum" && (isOpd ns a && isOpd ns b))) = true
    rw [ha, hb]
    rfl
  · refine b23 hb1 hz fun a S2 hb2 ha => ?_
    (try simp only [wAll, wpLc, wipeS, zipS, enmS, OV.fz, reduceIte, List.getElem?_cons_zero, List.getElem?_cons_succ, List.set_cons_zero, List.set_cons_succ, Option.map_some, Option.map_none, if_true, if_false, Bool.false_eq_true, ite_true, ite_false, Bool.not_true, Bool.not_false, true_and, and_true, exists_eq_left, Bool.true_and, Bool.and_true, Bool.false_and, Bool.and_false, Bool.true_or, Bool.false_or, Bool.or_true, Bool.or_false])
    exact h _ _ hb2 (opd_term ha)

theorem asc_nil : asc [] = true := rfl
theorem asc_one (a : Str) : asc [a] = true := rfl
theorem asc_cons (a b : Str) (r : List Str) : asc (a :: b :: r) = (ltS a b && asc (b :: r)) := rfl
theorem asc_of {xs : List Str} (h : xs.Pairwise fun a b => ltS a b = true) : asc xs = true := by
  induction xs with
  | nil => rfl
  | cons a r ih =>
    rw [List.pairwise_cons] at h
    cases r with
    | nil => rfl
    | cons b r => rw [asc_cons, h.1 b List.mem_cons_self, ih h.2]; rfl
theorem asc_pw : ∀ {xs : List Str}, asc xs = true → xs.Pairwise fun a b => ltS a b = true
  | [], _ => .nil
  | [a], _ => List.pairwise_singleton ..
  | a :: b :: r, h => by
    rw [asc_cons, Bool.and_eq_true] at h
    have ih := asc_pw h.2
    refine List.pairwise_cons.mpr ⟨fun x hx => ?_, ih⟩
    rcases List.mem_cons.mp hx with rfl | hx
    · exact h.1
    · exact ltS_trans h.1 ((List.pairwise_cons.mp ih).1 x hx)
theorem asc_sub {xs ys : List Str} (h : asc ys = true) (s : xs.Sublist ys) : asc xs = true := asc_of ((asc_pw h).sublist s)
theorem asc_nodup {xs : List Str} (h : asc xs = true) : xs.Nodup := by
  refine (asc_pw h).imp fun {a b} h e => ?_
  rw [e, ltS_irr] at h
  cases h
theorem asc_sort {xs : List Str} (h : xs.Nodup) : asc (sortS xs) = true := asc_of (sortS_lt h)
theorem sort_asc {xs : List Str} (h : asc xs = true) : sortS xs = xs := by
  have e : (sortS xs).Perm xs := sortS_perm xs
  exact List.Perm.eq_of_pairwise (le := fun a b => leS a b = true) (fun a b _ _ h1 h2 => by
    unfold leS at h1 h2
    rw [Bool.not_eq_true'] at h1 h2
    exact ltS_tri h2 h1) (sortS_pw xs) ((asc_pw h).imp fun {a b} h => by unfold leS; rw [ltS_asym h]; rfl) e
theorem o_sortl {xs : List Str} : biS .sorted [.sv (.val (.list (xs.map .str)))] = some (.new (.lst ((sortS xs).map .str))) := by
  show (if sortOk (xs.map .str) = true then some (RV.new (.lst (sortD (xs.map .str)))) else none) = _
  rw [if_pos (sortOk_strs xs), sortD_strs]
theorem o_sortn {xs : List Str} : biS .sorted [.new (.lst (xs.map .str))] = some (.new (.lst ((sortS xs).map .str))) := by
  show (if sortOk (xs.map .str) = true then some (RV.new (.lst (sortD (xs.map .str)))) else none) = _
  rw [if_pos (sortOk_strs xs), sortD_strs]
theorem sr_nil {sl : Slots} : setRs [] [] sl = some sl := rfl
theorem sr_v {i : Nat} {is : List Nat} {v : SV} {rs : List RV} {sl : Slots} : setRs (i :: is) (.sv v :: rs) sl = setRs is rs (sl.set i (some v)) := rfl
theorem sr_n {i : Nat} {is : List Nat} {o : OV} {rs : List RV} {sl : Slots} : setRs (i :: is) (.new o :: rs) sl = setRs is rs (sl.set i (some (.own o))) := rfl
theorem cond_ok {ns : List Str} {a b : PyData} {x : Str} (ha : isOpd ns a = true) (hb : isOpd ns b = true) (hx : x ∈ [("=" : Str), "<"]) : isCond ns (.tuple [a, .str x, b]) = true := by
  show (isRow (.tuple [a, .str x, b]) 3 3 && (decide (x ∈ [("=" : Str), "<"]) && (isOpd ns a && isOpd ns b))) = true
  rw [ha, hb, decide_eq_true hx]
  rfl
def noneIf (t : Bool) (d : PyData) : Prop := t = false → isNone (itm d 2) = true
theorem b25 {k r : Nat} {ns own : List Str} {t : Bool} {S : Store} {Q : SV → Store → Prop} (hb : Bag S r) (hz : ns.length ≤ 1000) (hn : own.Nodup) (ho : own.length ≤ 3) (hs : ∀ x ∈ own, x ∈ ns ∧ x ≠ ("arg" : Str))
    (h : ∀ d S', Bag S' r → isRule ns d = true → noneIf t d → Q (.val d) S') : WP (C (k + 5) 25 [.cell r, .val (.list (ns.map .str)), .val (.list (own.map .str)), .val (.bool t)] S) Q := by
  rw [u25]
  (try simp only [wAll, frzS, wpLc, wipeS, zipS, enmS, OV.fz, reduceIte, List.getElem?_cons_zero, List.getElem?_cons_succ, List.set_cons_zero, List.set_cons_succ, Option.map_some, Option.map_none, if_true, if_false, Bool.false_eq_true, ite_true, ite_false, Bool.not_true, Bool.not_false, true_and, and_true, exists_eq_left, Bool.true_and, Bool.and_true, Bool.false_and, Bool.and_false, Bool.true_or, Bool.false_or, Bool.or_true, Bool.or_false])
  refine b20 hb (by simp) (by simp) fun d hd S1 hb1 => ?_
  obtain ⟨m, rfl, hm0, hm⟩ : ∃ m : Int, d = .int m ∧ 0 ≤ m ∧ m ≤ 2 := by
    simp only [List.mem_cons, List.not_mem_nil, or_false] at hd
    rcases hd with rfl | rfl | rfl | rfl | rfl <;> exact ⟨_, rfl, by decide, by decide⟩
  (try simp only [wAll, frzS, wpLc, wipeS, zipS, enmS, OV.fz, reduceIte, List.getElem?_cons_zero, List.getElem?_cons_succ, List.set_cons_zero, List.set_cons_succ, Option.map_some, Option.map_none, if_true, if_false, Bool.false_eq_true, ite_true, ite_false, Bool.not_true, Bool.not_false, true_and, and_true, exists_eq_left, Bool.true_and, Bool.and_true, Bool.false_and, Bool.and_false, Bool.true_or, Bool.false_or, Bool.or_true, Bool.or_false])
  refine ⟨by omega, ?_⟩
  have hlen : (rngD 0 m.toNat).length = m.toNat := by simp [rngD]
  refine forGo_inv (fun i sl S => Bag S r ∧ ∃ cs t5 t6 t7, sl = [some (.cell r), some (.val (.list (ns.map .str))), some (.val (.list (own.map .str))), some (.val (.bool t)), some (.val (.tuple cs)), t5, t6, t7, none, none, none] ∧ cs.length = i ∧ cs.all (isCond ns) = true) ?_ ?_ ?_
  · exact ⟨hb1, [], none, none, none, rfl, rfl, rfl⟩
  · rintro i e sl S2 he ⟨hb2, cs, t5, t6, t7, rfl, hl, ha⟩
    have hi : i < m.toNat := by rw [← hlen]; exact (List.getElem?_eq_some_iff.mp he).1
    rw [s_forB]
    (try simp only [wAll, frzS, wpLc, wipeS, zipS, enmS, OV.fz, reduceIte, List.getElem?_cons_zero, List.getElem?_cons_succ, List.set_cons_zero, List.set_cons_succ, Option.map_some, Option.map_none, if_true, if_false, Bool.false_eq_true, ite_true, ite_false, Bool.not_true, Bool.not_false, true_and, and_true, exists_eq_left, Bool.true_and, Bool.and_true, Bool.false_and, Bool.and_false, Bool.true_or, Bool.false_or, Bool.or_true, Bool.or_false])
    refine b23 hb2 hz fun a S3 hb3 ha1 => ?_
    (try simp only [wAll, frzS, wpLc, wipeS, zipS, enmS, OV.fz, reduceIte, List.getElem?_cons_zero, List.getElem?_cons_succ, List.set_cons_zero, List.set_cons_succ, Option.map_some, Option.map_none, if_true, if_false, Bool.false_eq_true, ite_true, ite_false, Bool.not_true, Bool.not_false, true_and, and_true, exists_eq_left, Bool.true_and, Bool.and_true, Bool.false_and, Bool.and_false, Bool.true_or, Bool.false_or, Bool.or_true, Bool.or_false])
    refine b23 hb3 hz fun b S4 hb4 hb1 => ?_
    (try simp only [wAll, frzS, wpLc, wipeS, zipS, enmS, OV.fz, reduceIte, List.getElem?_cons_zero, List.getElem?_cons_succ, List.set_cons_zero, List.set_cons_succ, Option.map_some, Option.map_none, if_true, if_false, Bool.false_eq_true, ite_true, ite_false, Bool.not_true, Bool.not_false, true_and, and_true, exists_eq_left, Bool.true_and, Bool.and_true, Bool.false_and, Bool.and_false, Bool.true_or, Bool.false_or, Bool.or_true, Bool.or_false])
    simp only [sr_v, sr_nil]
    (try simp only [wAll, frzS, wpLc, wipeS, zipS, enmS, OV.fz, reduceIte, List.getElem?_cons_zero, List.getElem?_cons_succ, List.set_cons_zero, List.set_cons_succ, Option.map_some, Option.map_none, if_true, if_false, Bool.false_eq_true, ite_true, ite_false, Bool.not_true, Bool.not_false, true_and, and_true, exists_eq_left, Bool.true_and, Bool.and_true, Bool.false_and, Bool.and_false, Bool.true_or, Bool.false_or, Bool.or_true, Bool.or_false])
    refine b20 hb4 (by simp) (by simp) fun x hx S5 hb5 => ?_
    (try simp only [wAll, frzS, wpLc, wipeS, zipS, enmS, OV.fz, reduceIte, List.getElem?_cons_zero, List.getElem?_cons_succ, List.set_cons_zero, List.set_cons_succ, Option.map_some, Option.map_none, if_true, if_false, Bool.false_eq_true, ite_true, ite_false, Bool.not_true, Bool.not_false, true_and, and_true, exists_eq_left, Bool.true_and, Bool.and_true, Bool.false_and, Bool.and_false, Bool.true_or, Bool.false_or, Bool.or_true, Bool.or_false])
    have hx' : ∃ y : Str, x = .str y ∧ y ∈ [("=" : Str), "<"] := by
      simp only [List.mem_cons, List.not_mem_nil, or_false] at hx
      rcases hx with rfl | rfl | rfl
      · exact ⟨_, rfl, by simp⟩
      · exact ⟨_, rfl, by simp⟩
      · exact ⟨_, rfl, by simp⟩
    obtain ⟨y, rfl, hy⟩ := hx'
    refine ⟨by simp [hl]; show _ ≤ 16777216; omega, hb5, cs ++ [.tuple [a, .str y, b]], _, _, _, rfl, by simp [hl], ?_⟩
    rw [List.all_append, ha]
    simp [cond_ok ha1 hb1 hy]
  · rintro sl S2 ⟨hb2, cs, t5, t6, t7, rfl, hl, ha⟩
    rw [hlen] at hl
    (try simp only [wAll, frzS, wpLc, wipeS, zipS, enmS, OV.fz, reduceIte, List.getElem?_cons_zero, List.getElem?_cons_succ, List.set_cons_zero, List.set_cons_succ, Option.map_some, Option.map_none, if_true, if_false, Bool.false_eq_true, ite_true, ite_false, Bool.not_true, Bool.not_false, true_and, and_true, exists_eq_left, Bool.true_and, Bool.and_true, Bool.false_and, Bool.and_false, Bool.true_or, Bool.false_or, Bool.or_true, Bool.or_false])
    rw [o_sortl]
    (try simp only [wAll, frzS, wpLc, wipeS, zipS, enmS, OV.fz, reduceIte, List.getElem?_cons_zero, List.getElem?_cons_succ, List.set_cons_zero, List.set_cons_succ, Option.map_some, Option.map_none, if_true, if_false, Bool.false_eq_true, ite_true, ite_false, Bool.not_true, Bool.not_false, true_and, and_true, exists_eq_left, Bool.true_and, Bool.and_true, Bool.false_and, Bool.and_false, Bool.true_or, Bool.false_or, Bool.or_true, Bool.or_false])
    refine lc_inv (fun i ys S => Bag S r ∧ ∃ zs : List Str, ys.length = zs.length ∧ fsts ys = zs ∧ zs.Sublist ((sortS own).take i) ∧ ys.all (isSet ns) = true) ?_ ?_ ?_
    · exact ⟨hb2, [], rfl, rfl, List.nil_sublist _, rfl⟩
    · rintro i e ys S3 he ⟨hb3, zs, h1, h2, h3, h4⟩
      rw [List.getElem?_map] at he
      obtain ⟨x, hx, rfl⟩ := Option.map_eq_some_iff.mp he
      (try simp only [wAll, frzS, wpLc, wipeS, zipS, enmS, OV.fz, reduceIte, List.getElem?_cons_zero, List.getElem?_cons_succ, List.set_cons_zero, List.set_cons_succ, Option.map_some, Option.map_none, if_true, if_false, Bool.false_eq_true, ite_true, ite_false, Bool.not_true, Bool.not_false, true_and, and_true, exists_eq_left, Bool.true_and, Bool.and_true, Bool.false_and, Bool.and_false, Bool.true_or, Bool.false_or, Bool.or_true, Bool.or_false])
      refine b19 hb3 (by decide) (by decide) fun z S4 hb4 _ _ => ?_
      (try simp only [wAll, frzS, wpLc, wipeS, zipS, enmS, OV.fz, reduceIte, List.getElem?_cons_zero, List.getElem?_cons_succ, List.set_cons_zero, List.set_cons_succ, Option.map_some, Option.map_none, if_true, if_false, Bool.false_eq_true, ite_true, ite_false, Bool.not_true, Bool.not_false, true_and, and_true, exists_eq_left, Bool.true_and, Bool.and_true, Bool.false_and, Bool.and_false, Bool.true_or, Bool.false_or, Bool.or_true, Bool.or_false])
      have hsub : zs.Sublist ((sortS own).take (i + 1)) := h3.trans (List.take_sublist_take_left (by omega))
      split
      · refine b24 hb4 hz fun a S5 hb5 ha5 => ?_
        (try simp only [wAll, frzS, wpLc, wipeS, zipS, enmS, OV.fz, reduceIte, List.getElem?_cons_zero, List.getElem?_cons_succ, List.set_cons_zero, List.set_cons_succ, Option.map_some, Option.map_none, if_true, if_false, Bool.false_eq_true, ite_true, ite_false, Bool.not_true, Bool.not_false, true_and, and_true, exists_eq_left, Bool.true_and, Bool.and_true, Bool.false_and, Bool.and_false, Bool.true_or, Bool.false_or, Bool.or_true, Bool.or_false])
        refine ⟨hb5, zs ++ [x], by simp [h1], by simp [fsts] at h2 ⊢; exact ⟨h2, rfl⟩, ?_, ?_⟩
        · rw [List.take_succ, hx]
          exact List.Sublist.append h3 (List.Sublist.refl _)
        · rw [List.all_append, h4]
          have hxm : x ∈ own := (sortS_perm own).mem_iff.mp (List.mem_of_getElem? hx)
          obtain ⟨q1, q2⟩ := hs x hxm
          have : isSet ns (.tuple [.str x, a]) = true := by
            show (isRow (.tuple [.str x, a]) 2 2 && ((!decide (x = ("arg" : Str)) && decide (x ∈ ns)) && isTerm ns a)) = true
            rw [ha5, decide_eq_true q1, decide_eq_false q2]
            rfl
          simp [this]
      · exact ⟨hb4, zs, h1, h2, hsub, h4⟩
    · rintro ys S3 ⟨hb3, zs, h1, h2, h3, h4⟩
      (try simp only [wAll, frzS, wpLc, wipeS, zipS, enmS, OV.fz, reduceIte, List.getElem?_cons_zero, List.getElem?_cons_succ, List.set_cons_zero, List.set_cons_succ, Option.map_some, Option.map_none, if_true, if_false, Bool.false_eq_true, ite_true, ite_false, Bool.not_true, Bool.not_false, true_and, and_true, exists_eq_left, Bool.true_and, Bool.and_true, Bool.false_and, Bool.and_false, Bool.true_or, Bool.false_or, Bool.or_true, Bool.or_false])
      have hzs : zs.Sublist (sortS own) := by
        rw [List.length_map, List.take_length] at h3
        exact h3
      have hzl : ys.length ≤ 3 := by
        have := hzs.length_le
        rw [(sortS_perm own).length_eq] at this
        omega
      have fin : ∀ a S4, Bag S4 r → (isNone a = true ∨ (t = true ∧ isTerm ns a = true)) → Q (.val (.tuple [.tuple cs, .tuple ys, a])) S4 := by
        intro a S4 hb4 ha4
        refine h _ _ hb4 ?_ ?_
        · show (isRow (.tuple [.tuple cs, .tuple ys, a]) 3 3 && ((isRow (.tuple cs) 0 2 && isRow (.tuple ys) 0 3) && ((cs.all (isCond ns) && ys.all (isSet ns)) && (asc (fsts ys) && (isNone a || isTerm ns a))))) = true
          have e1 : isRow (.tuple cs) 0 2 = true := by simp [isRow]; omega
          have e2 : isRow (.tuple ys) 0 3 = true := by simp [isRow]; omega
          rw [e1, e2, ha, h4, h2, asc_sub (asc_sort hn) hzs]
          rcases ha4 with q | ⟨_, q⟩ <;> rw [q] <;> simp [isRow]
        · intro ht
          rcases ha4 with q | ⟨q, _⟩
          · exact q
          · rw [ht] at q; cases q
      cases t
      · (try simp only [wAll, frzS, wpLc, wipeS, zipS, enmS, OV.fz, reduceIte, List.getElem?_cons_zero, List.getElem?_cons_succ, List.set_cons_zero, List.set_cons_succ, Option.map_some, Option.map_none, if_true, if_false, Bool.false_eq_true, ite_true, ite_false, Bool.not_true, Bool.not_false, true_and, and_true, exists_eq_left, Bool.true_and, Bool.and_true, Bool.false_and, Bool.and_false, Bool.true_or, Bool.false_or, Bool.or_true, Bool.or_false])
        exact fin _ _ hb3 (.inl rfl)
      · (try simp only [wAll, frzS, wpLc, wipeS, zipS, enmS, OV.fz, reduceIte, List.getElem?_cons_zero, List.getElem?_cons_succ, List.set_cons_zero, List.set_cons_succ, Option.map_some, Option.map_none, if_true, if_false, Bool.false_eq_true, ite_true, ite_false, Bool.not_true, Bool.not_false, true_and, and_true, exists_eq_left, Bool.true_and, Bool.and_true, Bool.false_and, Bool.and_false, Bool.true_or, Bool.false_or, Bool.or_true, Bool.or_false])
        refine b19 hb3 (by decide) (by decide) fun z S4 hb4 _ _ => ?_
        (try simp only [wAll, frzS, wpLc, wipeS, zipS, enmS, OV.fz, reduceIte, List.getElem?_cons_zero, List.getElem?_cons_succ, List.set_cons_zero, List.set_cons_succ, Option.map_some, Option.map_none, if_true, if_false, Bool.false_eq_true, ite_true, ite_false, Bool.not_true, Bool.not_false, true_and, and_true, exists_eq_left, Bool.true_and, Bool.and_true, Bool.false_and, Bool.and_false, Bool.true_or, Bool.false_or, Bool.or_true, Bool.or_false])
        split
        · refine b24 hb4 hz fun a S5 hb5 ha5 => ?_
          (try simp only [wAll, frzS, wpLc, wipeS, zipS, enmS, OV.fz, reduceIte, List.getElem?_cons_zero, List.getElem?_cons_succ, List.set_cons_zero, List.set_cons_succ, Option.map_some, Option.map_none, if_true, if_false, Bool.false_eq_true, ite_true, ite_false, Bool.not_true, Bool.not_false, true_and, and_true, exists_eq_left, Bool.true_and, Bool.and_true, Bool.false_and, Bool.and_false, Bool.true_or, Bool.false_or, Bool.or_true, Bool.or_false])
          exact fin _ _ hb5 (.inr ⟨rfl, ha5⟩)
        · (try simp only [wAll, frzS, wpLc, wipeS, zipS, enmS, OV.fz, reduceIte, List.getElem?_cons_zero, List.getElem?_cons_succ, List.set_cons_zero, List.set_cons_succ, Option.map_some, Option.map_none, if_true, if_false, Bool.false_eq_true, ite_true, ite_false, Bool.not_true, Bool.not_false, true_and, and_true, exists_eq_left, Bool.true_and, Bool.and_true, Bool.false_and, Bool.and_false, Bool.true_or, Bool.false_or, Bool.or_true, Bool.or_false])
          exact fin _ _ hb4 (.inl rfl)

theorem prodL_app (fs : List PyData) (e : PyData) : prodL (fs ++ [e]) = prodL fs * intOf (itm e 1) := by
  unfold prodL
  rw [List.map_append, List.foldl_append]
  rfl
theorem field_ok {x : Str} {s d : Int} {w : PyData} (hx : isNm (.str x) = true) (h1 : 2 ≤ s) (h2 : s ≤ 4) (h3 : 0 ≤ d) (h4 : d < s) (hw : isRefuse w = true ∨ isInt w 0 (s - 1) = true) : isField (.tuple [.str x, .int s, .int d, w]) = true := by
  show (isRow (.tuple [.str x, .int s, .int d, w]) 4 4 && ((isNm (.str x) && isInt (.int s) 2 4) && (isInt (.int d) 0 (s - 1) && (isRefuse w || isInt w 0 (s - 1))))) = true
  rw [hx, show isInt (.int s) 2 4 = true from by simp [isInt]; omega, show isInt (.int d) 0 (s - 1) = true from by simp [isInt]; omega]
  rcases hw with q | q <;> rw [q]
  · rfl
  · simp [isRow]
def roomOf (j : Nat) : Int := if j = 0 then 24 else if j = 1 then 12 else 6
theorem room_fold (ds : List PyData) (h : ds.length ≤ 2) (z : Option SV) : (ds.foldl (fun (a : Option SV × Int) e => (some (.val e), a.2 / 2)) (z, 24)).2 = roomOf ds.length := by
  match ds, h with
  | [], _ => rfl
  | [_], _ => rfl
  | [_, _], _ => rfl
  | _ :: _ :: _ :: r, h => simp at h
theorem b26 {k r : Nat} {xs : List Str} {S : Store} {Q : SV → Store → Prop} (hb : Bag S r) (h0 : 1 ≤ xs.length) (h3 : xs.length ≤ 3) (hn : xs.Nodup) (hx : ∀ x ∈ xs, isNm (.str x) = true)
    (h : ∀ fs S', Bag S' r → areFields (.tuple fs) = true → fsts fs = sortS xs → Q (.val (.tuple fs)) S') : WP (C (k + 3) 26 [.cell r, .val (.list (xs.map .str))] S) Q := by
  rw [u26]
  (try simp only [wAll, frzS, wpLc, wipeS, zipS, enmS, OV.fz, reduceIte, List.getElem?_cons_zero, List.getElem?_cons_succ, List.set_cons_zero, List.set_cons_succ, Option.map_some, Option.map_none, if_true, if_false, Bool.false_eq_true, ite_true, ite_false, Bool.not_true, Bool.not_false, true_and, and_true, exists_eq_left, Bool.true_and, Bool.and_true, Bool.false_and, Bool.and_false, Bool.true_or, Bool.false_or, Bool.or_true, Bool.or_false])
  simp only [sr_v, sr_nil]
  (try simp only [wAll, frzS, wpLc, wipeS, zipS, enmS, OV.fz, reduceIte, List.getElem?_cons_zero, List.getElem?_cons_succ, List.set_cons_zero, List.set_cons_succ, Option.map_some, Option.map_none, if_true, if_false, Bool.false_eq_true, ite_true, ite_false, Bool.not_true, Bool.not_false, true_and, and_true, exists_eq_left, Bool.true_and, Bool.and_true, Bool.false_and, Bool.and_false, Bool.true_or, Bool.false_or, Bool.or_true, Bool.or_false])
  have hlen : (rngD 0 (((xs.map PyData.str).length : Nat) : Int).toNat).length = xs.length := by simp [rngD]
  refine ⟨by simp only [List.length_map]; omega, ?_⟩
  have sl_len : (sortS xs).length = xs.length := (sortS_perm xs).length_eq
  have step : ∀ (R : Out → Prop) (i : Nat) (e : PyData) (sl : Slots) (S1 : Store), (rngD 0 (((xs.map PyData.str).length : Nat) : Int).toNat)[i]? = some e → (fun i sl S => Bag S r ∧ ∃ fs p t4 t5 t6 t7 t8 t9, sl = [some (.cell r), some (.val (.list (xs.map .str))), some (.val (.tuple fs)), some (.val (.int p)), t4, t5, t6, t7, t8, t9] ∧ fs.length = i ∧ fs.all isField = true ∧ fsts fs = (sortS xs).take i ∧ prodL fs = p ∧ 1 ≤ p ∧ p * 2 ^ (xs.length - i) ≤ 24) i sl S1 → op1 (forB (Ek (k + 2)) (.nm 4) (.cons (.asg (.nm 5) (.int 24)) (.cons (.forr (.nm 6) (.seq (.slc (.var 1) (.yes (.bop .add (.var 4) (.int 1))) .no)) (.cons (.asg (.nm 5) (.bop .fdiv (.var 5) (.int 2))) .nil)) (.cons (.asg (.nm 7) (.call 20 (.cons (.var 0) (.cons (.lst (.cons (.int 2) (.cons (.int 2) (.cons (.int 3) (.cons (.int 3) (.cons (.int 4) .nil)))))) .nil)))) (.cons (.asg (.nm 7) (.ite (.cop .le (.bop .mul (.var 3) (.var 7)) (.var 5)) (.var 7) (.int 2))) (.cons (.asg (.nm 3) (.bop .mul (.var 3) (.var 7))) (.cons (.asg (.nm 8) (.call 20 (.cons (.var 0) (.cons (.lst (.cons (.int 0) (.cons (.int 0) (.cons (.int 0) (.cons (.call 19 (.cons (.var 0) (.cons (.var 7) .nil))) .nil))))) .nil)))) (.cons (.asg (.nm 9) (.call 20 (.cons (.var 0) (.cons (.lst (.cons (.str "refuse") (.cons (.str "refuse") (.cons (.call 19 (.cons (.var 0) (.cons (.var 7) .nil))) .nil)))) .nil)))) (.cons (.asg (.nm 2) (.bop .add (.var 2) (.tup (.cons (.tup (.cons (.sub (.bi .sorted (.cons (.var 1) .nil)) (.var 4)) (.cons (.var 7) (.cons (.var 8) (.cons (.var 9) .nil))))) .nil)))) (.cons (.frz 2) .nil))))))))) e sl S1) (loopQ ((fun i sl S => Bag S r ∧ ∃ fs p t4 t5 t6 t7 t8 t9, sl = [some (.cell r), some (.val (.list (xs.map .str))), some (.val (.tuple fs)), some (.val (.int p)), t4, t5, t6, t7, t8, t9] ∧ fs.length = i ∧ fs.all isField = true ∧ fsts fs = (sortS xs).take i ∧ prodL fs = p ∧ 1 ≤ p ∧ p * 2 ^ (xs.length - i) ≤ 24) (i + 1)) R) := by
    rintro R i e sl S1 he ⟨hb1, fs, p, t4, t5, t6, t7, t8, t9, rfl, hl, ha, hf, hp, hp1, hp2⟩
    have hi : i < xs.length := by rw [← hlen]; exact (List.getElem?_eq_some_iff.mp he).1
    have ee : e = .int (i : Int) := by
      unfold rngD at he
      rw [List.getElem?_map, List.getElem?_range (by simp; omega)] at he
      cases he
      simp
    subst ee
    rw [s_forB]
    generalize hT : (.cons (.asg (.nm 3) (.bop .mul (.var 3) (.var 7))) (.cons (.asg (.nm 8) (.call 20 (.cons (.var 0) (.cons (.lst (.cons (.int 0) (.cons (.int 0) (.cons (.int 0) (.cons (.call 19 (.cons (.var 0) (.cons (.var 7) .nil))) .nil))))) .nil)))) (.cons (.asg (.nm 9) (.call 20 (.cons (.var 0) (.cons (.lst (.cons (.str "refuse") (.cons (.str "refuse") (.cons (.call 19 (.cons (.var 0) (.cons (.var 7) .nil))) .nil)))) .nil)))) (.cons (.asg (.nm 2) (.bop .add (.var 2) (.tup (.cons (.tup (.cons (.sub (.bi .sorted (.cons (.var 1) .nil)) (.var 4)) (.cons (.var 7) (.cons (.var 8) (.cons (.var 9) .nil))))) .nil)))) (.cons (.frz 2) .nil)))) : Sms) = T
    (try simp only [wAll, frzS, wpLc, wipeS, zipS, enmS, OV.fz, reduceIte, List.getElem?_cons_zero, List.getElem?_cons_succ, List.set_cons_zero, List.set_cons_succ, Option.map_some, Option.map_none, if_true, if_false, Bool.false_eq_true, ite_true, ite_false, Bool.not_true, Bool.not_false, true_and, and_true, exists_eq_left, Bool.true_and, Bool.and_true, Bool.false_and, Bool.and_false, Bool.true_or, Bool.false_or, Bool.or_true, Bool.or_false])
    have hc := (cutA (xs := xs.map PyData.str) (i := (i : Int) + 1) (i + 1) (by omega) (by simp; omega)).1
    rw [hc]
    have hj : ((xs.map PyData.str).drop (i + 1)).length = xs.length - i - 1 := by simp; omega
    have loop := forGo_fold (S := S1) (f := forB (Ek (k + 2)) (.nm 6) (.cons (.asg (.nm 5) (.bop .fdiv (.var 5) (.int 2))) .nil)) (fun (a : Option SV × Int) => [some (.cell r), some (.val (.list (xs.map .str))), some (.val (.tuple fs)), some (.val (.int p)), some (.val (.int (i : Int))), some (.val (.int a.2)), a.1, t7, t8, t9]) (fun a e => (some (.val e), a.2 / 2)) (ds := (xs.map PyData.str).drop (i + 1)) (a := (t6, 24)) (fun e he a => by
      (try simp only [wAll, frzS, wpLc, wipeS, zipS, enmS, OV.fz, reduceIte, List.getElem?_cons_zero, List.getElem?_cons_succ, List.set_cons_zero, List.set_cons_succ, Option.map_some, Option.map_none, if_true, if_false, Bool.false_eq_true, ite_true, ite_false, Bool.not_true, Bool.not_false, true_and, and_true, exists_eq_left, Bool.true_and, Bool.and_true, Bool.false_and, Bool.and_false, Bool.true_or, Bool.false_or, Bool.or_true, Bool.or_false])
      exact ⟨by decide, by decide⟩)
    rw [loop]
    have hr := room_fold ((xs.map PyData.str).drop (i + 1)) (by rw [hj]; omega) t6
    generalize List.foldl (fun (a : Option SV × Int) e => (some (SV.val e), a.2 / 2)) (t6, 24) ((xs.map PyData.str).drop (i + 1)) = z at *
    rw [hj] at hr
    (try simp only [wAll, frzS, wpLc, wipeS, zipS, enmS, OV.fz, reduceIte, List.getElem?_cons_zero, List.getElem?_cons_succ, List.set_cons_zero, List.set_cons_succ, Option.map_some, Option.map_none, if_true, if_false, Bool.false_eq_true, ite_true, ite_false, Bool.not_true, Bool.not_false, true_and, and_true, exists_eq_left, Bool.true_and, Bool.and_true, Bool.false_and, Bool.and_false, Bool.true_or, Bool.false_or, Bool.or_true, Bool.or_false])
    refine b20 hb1 (by simp) (by simp) fun d hd S2 hb2 => ?_
    obtain ⟨s, rfl, hs1, hs2⟩ : ∃ m : Int, d = .int m ∧ 2 ≤ m ∧ m ≤ 4 := by
      simp only [List.mem_cons, List.not_mem_nil, or_false] at hd
      rcases hd with rfl | rfl | rfl | rfl | rfl <;> exact ⟨_, rfl, by decide, by decide⟩
    (try simp only [wAll, frzS, wpLc, wipeS, zipS, enmS, OV.fz, reduceIte, List.getElem?_cons_zero, List.getElem?_cons_succ, List.set_cons_zero, List.set_cons_succ, Option.map_some, Option.map_none, if_true, if_false, Bool.false_eq_true, ite_true, ite_false, Bool.not_true, Bool.not_false, true_and, and_true, exists_eq_left, Bool.true_and, Bool.and_true, Bool.false_and, Bool.and_false, Bool.true_or, Bool.false_or, Bool.or_true, Bool.or_false])
    refine ⟨.inr ⟨by omega, by omega⟩, ?_⟩
    have key : ∀ s' : Int, 2 ≤ s' → s' ≤ 4 → p * s' * 2 ^ (xs.length - (i + 1)) ≤ 24 → ∀ S2, Bag S2 r →
        op1 (exSs (Ek (k + 2)) [some (.cell r), some (.val (.list (xs.map .str))), some (.val (.tuple fs)), some (.val (.int p)), some (.val (.int (i : Int))), some (.val (.int z.2)), z.1, some (.val (.int s')), t8, t9] S2
          T)
          (loopQ (fun sl S => Bag S r ∧ ∃ fs p t4 t5 t6 t7 t8 t9, sl = [some (.cell r), some (.val (.list (xs.map .str))), some (.val (.tuple fs)), some (.val (.int p)), t4, t5, t6, t7, t8, t9] ∧ fs.length = i + 1 ∧ fs.all isField = true ∧ fsts fs = (sortS xs).take (i + 1) ∧ prodL fs = p ∧ 1 ≤ p ∧ p * 2 ^ (xs.length - (i + 1)) ≤ 24) R) := by
      intro s' h2 h4 hp' S2 hb2
      rw [← hT]
      (try simp only [wAll, frzS, wpLc, wipeS, zipS, enmS, OV.fz, reduceIte, List.getElem?_cons_zero, List.getElem?_cons_succ, List.set_cons_zero, List.set_cons_succ, Option.map_some, Option.map_none, if_true, if_false, Bool.false_eq_true, ite_true, ite_false, Bool.not_true, Bool.not_false, true_and, and_true, exists_eq_left, Bool.true_and, Bool.and_true, Bool.false_and, Bool.and_false, Bool.true_or, Bool.false_or, Bool.or_true, Bool.or_false])
      refine ⟨.inr ⟨by omega, by omega⟩, ?_⟩
      refine b19 hb2 (by omega) (by omega) fun q S3 hb3 hq0 hq1 => ?_
      (try simp only [wAll, frzS, wpLc, wipeS, zipS, enmS, OV.fz, reduceIte, List.getElem?_cons_zero, List.getElem?_cons_succ, List.set_cons_zero, List.set_cons_succ, Option.map_some, Option.map_none, if_true, if_false, Bool.false_eq_true, ite_true, ite_false, Bool.not_true, Bool.not_false, true_and, and_true, exists_eq_left, Bool.true_and, Bool.and_true, Bool.false_and, Bool.and_false, Bool.true_or, Bool.false_or, Bool.or_true, Bool.or_false])
      refine b20 hb3 (by simp) (by simp) fun d hd S4 hb4 => ?_
      obtain ⟨df, rfl, hd0, hd1⟩ : ∃ m : Int, d = .int m ∧ 0 ≤ m ∧ m < s' := by
        simp only [List.mem_cons, List.not_mem_nil, or_false] at hd
        rcases hd with rfl | rfl | rfl | rfl
        · exact ⟨_, rfl, by decide, by omega⟩
        · exact ⟨_, rfl, by decide, by omega⟩
        · exact ⟨_, rfl, by decide, by omega⟩
        · exact ⟨_, rfl, hq0, hq1⟩
      (try simp only [wAll, frzS, wpLc, wipeS, zipS, enmS, OV.fz, reduceIte, List.getElem?_cons_zero, List.getElem?_cons_succ, List.set_cons_zero, List.set_cons_succ, Option.map_some, Option.map_none, if_true, if_false, Bool.false_eq_true, ite_true, ite_false, Bool.not_true, Bool.not_false, true_and, and_true, exists_eq_left, Bool.true_and, Bool.and_true, Bool.false_and, Bool.and_false, Bool.true_or, Bool.false_or, Bool.or_true, Bool.or_false])
      refine b19 hb4 (by omega) (by omega) fun q2 S5 hb5 hq20 hq21 => ?_
      (try simp only [wAll, frzS, wpLc, wipeS, zipS, enmS, OV.fz, reduceIte, List.getElem?_cons_zero, List.getElem?_cons_succ, List.set_cons_zero, List.set_cons_succ, Option.map_some, Option.map_none, if_true, if_false, Bool.false_eq_true, ite_true, ite_false, Bool.not_true, Bool.not_false, true_and, and_true, exists_eq_left, Bool.true_and, Bool.and_true, Bool.false_and, Bool.and_false, Bool.true_or, Bool.false_or, Bool.or_true, Bool.or_false])
      refine b20 hb5 (by simp) (by simp) fun w hw S6 hb6 => ?_
      have hw' : isRefuse w = true ∨ isInt w 0 (s' - 1) = true := by
        simp only [List.mem_cons, List.not_mem_nil, or_false] at hw
        rcases hw with rfl | rfl | rfl
        · exact .inl rfl
        · exact .inl rfl
        · right; simp [isInt]; omega
      (try simp only [wAll, frzS, wpLc, wipeS, zipS, enmS, OV.fz, reduceIte, List.getElem?_cons_zero, List.getElem?_cons_succ, List.set_cons_zero, List.set_cons_succ, Option.map_some, Option.map_none, if_true, if_false, Bool.false_eq_true, ite_true, ite_false, Bool.not_true, Bool.not_false, true_and, and_true, exists_eq_left, Bool.true_and, Bool.and_true, Bool.false_and, Bool.and_false, Bool.true_or, Bool.false_or, Bool.or_true, Bool.or_false])
      rw [o_sortl]
      (try simp only [wAll, frzS, wpLc, wipeS, zipS, enmS, OV.fz, reduceIte, List.getElem?_cons_zero, List.getElem?_cons_succ, List.set_cons_zero, List.set_cons_succ, Option.map_some, Option.map_none, if_true, if_false, Bool.false_eq_true, ite_true, ite_false, Bool.not_true, Bool.not_false, true_and, and_true, exists_eq_left, Bool.true_and, Bool.and_true, Bool.false_and, Bool.and_false, Bool.true_or, Bool.false_or, Bool.or_true, Bool.or_false])
      have hxi : (sortS xs)[i]? = some ((sortS xs).getD i Str.empty) := by rw [List.getD_eq_getElem?_getD, List.getElem?_eq_getElem (by omega)]; rfl
      rw [show subS S6 (.new (.lst ((sortS xs).map .str))) (.sv (.val (.int (i : Int)))) = (atI ((sortS xs).map PyData.str) (i : Int)).map (fun d => .sv (.val d)) from rfl, str_at (xs := sortS xs) (i := (i : Int)) i rfl (by omega)]
      generalize (sortS xs).getD i Str.empty = x at *
      have hxm : isNm (.str x) = true := hx x ((sortS_perm xs).mem_iff.mp (List.mem_of_getElem? hxi))
      (try simp only [wAll, frzS, wpLc, wipeS, zipS, enmS, OV.fz, reduceIte, List.getElem?_cons_zero, List.getElem?_cons_succ, List.set_cons_zero, List.set_cons_succ, Option.map_some, Option.map_none, if_true, if_false, Bool.false_eq_true, ite_true, ite_false, Bool.not_true, Bool.not_false, true_and, and_true, exists_eq_left, Bool.true_and, Bool.and_true, Bool.false_and, Bool.and_false, Bool.true_or, Bool.false_or, Bool.or_true, Bool.or_false])
      refine ⟨by simp [hl]; show _ ≤ 16777216; omega, hb6, fs ++ [.tuple [.str x, .int s', .int df, w]], _, _, _, _, _, _, _, rfl, by simp [hl], ?_, ?_, ?_, ?_, hp'⟩
      · rw [List.all_append, ha]
        simp [field_ok hxm h2 h4 hd0 hd1 hw']
      · rw [List.take_succ, hxi]
        simp only [fsts, List.map_append] at hf ⊢
        rw [hf]
        rfl
      · rw [prodL_app, hp]; rfl
      · have : 1 * 2 ≤ p * s' := Int.mul_le_mul hp1 h2 (by decide) (by omega)
        omega
    have hj3 : xs.length - i - 1 = 0 ∨ xs.length - i - 1 = 1 ∨ xs.length - i - 1 = 2 := by omega
    have e1 : xs.length - (i + 1) = xs.length - i - 1 := by omega
    have e2 : xs.length - i = xs.length - i - 1 + 1 := by omega
    rw [e2] at hp2
    rw [e1] at key
    by_cases hle : p * s ≤ z.2
    · simp only [hle, decide_true]
      (try simp only [wAll, frzS, wpLc, wipeS, zipS, enmS, OV.fz, reduceIte, List.getElem?_cons_zero, List.getElem?_cons_succ, List.set_cons_zero, List.set_cons_succ, Option.map_some, Option.map_none, if_true, if_false, Bool.false_eq_true, ite_true, ite_false, Bool.not_true, Bool.not_false, true_and, and_true, exists_eq_left, Bool.true_and, Bool.and_true, Bool.false_and, Bool.and_false, Bool.true_or, Bool.false_or, Bool.or_true, Bool.or_false])
      have := key s hs1 hs2 (by
        rw [hr] at hle
        rcases hj3 with q | q | q <;> rw [q] at hle ⊢ <;> simp [roomOf] at hle ⊢ <;> omega) S2 hb2
      exact this
    · simp only [hle, decide_false]
      (try simp only [wAll, frzS, wpLc, wipeS, zipS, enmS, OV.fz, reduceIte, List.getElem?_cons_zero, List.getElem?_cons_succ, List.set_cons_zero, List.set_cons_succ, Option.map_some, Option.map_none, if_true, if_false, Bool.false_eq_true, ite_true, ite_false, Bool.not_true, Bool.not_false, true_and, and_true, exists_eq_left, Bool.true_and, Bool.and_true, Bool.false_and, Bool.and_false, Bool.true_or, Bool.false_or, Bool.or_true, Bool.or_false])
      have := key 2 (by decide) (by decide) (by
        rcases hj3 with q | q | q <;> rw [q] at hp2 ⊢ <;> simp at hp2 ⊢ <;> omega) S2 hb2
      exact this
  refine forGo_inv (fun i sl S => Bag S r ∧ ∃ fs p t4 t5 t6 t7 t8 t9, sl = [some (.cell r), some (.val (.list (xs.map .str))), some (.val (.tuple fs)), some (.val (.int p)), t4, t5, t6, t7, t8, t9] ∧ fs.length = i ∧ fs.all isField = true ∧ fsts fs = (sortS xs).take i ∧ prodL fs = p ∧ 1 ≤ p ∧ p * 2 ^ (xs.length - i) ≤ 24) ?_ (step _) ?_
  · refine ⟨hb, [], 1, none, none, none, none, none, none, rfl, rfl, rfl, rfl, rfl, by decide, ?_⟩
    match xs, h0, h3 with
    | [_], _, _ => show (1 : Int) * 2 ^ 1 ≤ 24; decide
    | [_, _], _, _ => show (1 : Int) * 2 ^ 2 ≤ 24; decide
    | [_, _, _], _, _ => show (1 : Int) * 2 ^ 3 ≤ 24; decide
    | [], h, _ => simp at h
    | _ :: _ :: _ :: _ :: r, _, h => simp at h
  · rintro sl S1 ⟨hb1, fs, p, t4, t5, t6, t7, t8, t9, rfl, hl, ha, hf, hp, hp1, hp2⟩
    rw [hlen] at hl hf hp2
    (try simp only [wAll, frzS, wpLc, wipeS, zipS, enmS, OV.fz, reduceIte, List.getElem?_cons_zero, List.getElem?_cons_succ, List.set_cons_zero, List.set_cons_succ, Option.map_some, Option.map_none, if_true, if_false, Bool.false_eq_true, ite_true, ite_false, Bool.not_true, Bool.not_false, true_and, and_true, exists_eq_left, Bool.true_and, Bool.and_true, Bool.false_and, Bool.and_false, Bool.true_or, Bool.false_or, Bool.or_true, Bool.or_false])
    have hf2 : fsts fs = sortS xs := by rw [hf]; exact List.take_of_length_le (by omega)
    refine h fs _ hb1 ?_ hf2
    show (isRow (.tuple fs) 1 3 && (fs.all isField && (asc (fsts fs) && decide (prodL fs ≤ 24)))) = true
    rw [ha, hf2, asc_sort hn, hp]
    have : p ≤ 24 := by simpa using hp2
    rw [decide_eq_true this]
    simp [isRow]
    omega

theorem fields_own {fs : List PyData} {xs : List Str} (h : areFields (.tuple fs) = true) : (fsts fs).Nodup ∧ (fsts fs).length ≤ 3 ∧ (∀ x ∈ fsts fs, isNm (.str x) = true) ∧ ∀ e ∈ fs, ∃ x r, e = .tuple (.str x :: r) := by
  have h' : (isRow (.tuple fs) 1 3 && (fs.all isField && (asc (fsts fs) && decide (prodL fs ≤ 24)))) = true := h
  simp only [Bool.and_eq_true] at h'
  obtain ⟨h1, h2, h3, h4⟩ := h'
  have h2 := List.all_eq_true.mp h2
  refine ⟨asc_nodup h3, ?_, fun x hx => ?_, fun e he => field_fst (h2 e he)⟩
  · have := (isRow_tup h1).2.2
    have e : itms (.tuple fs) = fs := rfl
    rw [e] at this
    simp only [fsts, List.length_map]
    omega
  · obtain ⟨e, he, rfl⟩ := List.mem_map.mp hx
    have hf := h2 e he
    unfold isField at hf
    simp only [Bool.and_eq_true] at hf
    have := hf.2.1.1
    rw [isNm_str this] at this
    exact this
theorem nm_arg {x : Str} (h : isNm (.str x) = true) : x ≠ ("arg" : Str) := by
  rintro rfl
  have : isNm (.str ("arg" : Str)) = false := by decide
  rw [this] at h
  cases h
theorem manner_of {d : PyData} (h : d ∈ [PyData.str "whole", .str "part", .str "part"]) : isManner d = true := by
  simp only [List.mem_cons, List.not_mem_nil, or_false] at h
  rcases h with rfl | rfl | rfl <;> decide
theorem ed_ok {fs as sw : List PyData} {m : PyData} (h1 : areFields (.tuple fs) = true) (h2 : isManner m = true) (h3 : as.all (isAsk (fsts fs)) = true) (h4 : 1 ≤ as.length) (h5 : as.length ≤ 4) (h6 : asc (fsts as) = true) (h7 : isSweep (fsts fs) (.tuple sw) = true) :
    isEd (.tuple [.tuple fs, m, .tuple as, .tuple sw]) = true := by
  show (isRow (.tuple [.tuple fs, m, .tuple as, .tuple sw]) 4 4 && ((areFields (.tuple fs) && isManner m) && ((isRow (.tuple as) 1 4 && as.all (isAsk (fsts fs))) && (asc (fsts as) && isSweep (fsts fs) (.tuple sw))))) = true
  rw [h1, h2, h3, h6, h7]
  simp [isRow]
  omega
theorem sweep_nil {ns : List Str} : isSweep ns (.tuple []) = true := rfl
theorem sweep_one {ns : List Str} {d : PyData} (h : isRule ns d = true) (h2 : isNone (itm d 2) = true) : isSweep ns (.tuple [d]) = true := by
  show (isRow (.tuple [d]) 0 3 && ([d].all (isRule ns) && [d].all fun e => isNone (itm e 2))) = true
  simp [h, h2, isRow]
theorem ask_ok {ns : List Str} {x : Str} {c : Int} {rs : List PyData} (hx : isNm (.str x) = true) (h1 : 1 ≤ c) (h3 : c ≤ 3) (hl : rs.length ≤ 4) (hr : rs.all (isRule (ns ++ [("arg" : Str)])) = true) : isAsk ns (.tuple [.str x, .int c, .tuple rs]) = true := by
  show (isRow (.tuple [.str x, .int c, .tuple rs]) 3 3 && ((isNm (.str x) && isInt (.int c) 1 3) && (isRow (.tuple rs) 0 4 && rs.all (isRule (ns ++ [("arg" : Str)]))))) = true
  rw [hx, hr, show isInt (.int c) 1 3 = true from by simp [isInt]; omega]
  simp [isRow]
  omega
theorem o_tupn' {ds : List PyData} : biS .tuple [.new (.lst ds)] = some (.sv (.val (.tuple ds))) := rfl
theorem b27 {k r : Nat} {xs as : List Str} {S : Store} {Q : SV → Store → Prop} (hb : Bag S r) (h0 : 1 ≤ xs.length) (h3 : xs.length ≤ 3) (hn : xs.Nodup) (hx : ∀ x ∈ xs, isNm (.str x) = true)
    (ha : asc as = true) (ha1 : 1 ≤ as.length) (ha4 : as.length ≤ 4) (hx2 : ∀ x ∈ as, isNm (.str x) = true)
    (h : ∀ fs m qs sw S', Bag S' r → isEd (.tuple [.tuple fs, m, .tuple qs, .tuple sw]) = true → fsts fs = sortS xs → fsts qs = as → Q (.val (.tuple [.tuple fs, m, .tuple qs, .tuple sw])) S') :
    WP (C (k + 6) 27 [.cell r, .val (.list (xs.map .str)), .val (.list (as.map .str))] S) Q := by
  rw [u27]
  simp only [s_cons, s_par, w_econs, w_enil, w_call, w_xcons, w_xnil, w_var, List.getElem?_cons_zero, List.getElem?_cons_succ, slotV_cell, slotV_val, op1_some, asF_sv]
  refine b26 (k := k + 2) hb h0 h3 hn hx fun fs S1 hb1 hf hfs => ?_
  simp only [w_tup, w_xnil, t_0, op1_some, sr_v, sr_nil, List.set_cons_succ, List.set_cons_zero, thenO_nx, s_forr, w_iseq, w_bi, w_econs, w_enil, w_var, List.getElem?_cons_zero, List.getElem?_cons_succ, slotV_val, o_sortl, sort_asc ha, asF_new, OV.fz, o_seql]
  obtain ⟨on, ol, onm, off⟩ := fields_own (xs := xs) hf
  have frow : isRow (.tuple fs) 1 3 = true := by
    unfold areFields at hf
    rw [Bool.and_eq_true] at hf
    exact hf.1
  let I : Nat → Slots → Store → Prop := fun i sl S => Bag S r ∧ ∃ qs t5 t6 t7 t8 t9, sl = [some (.cell r), some (.val (.list (xs.map .str))), some (.val (.list (as.map .str))), some (.val (.tuple fs)), some (.val (.tuple qs)), t5, t6, t7, t8, t9, none] ∧ qs.length = i ∧ qs.all (isAsk (fsts fs)) = true ∧ fsts qs = as.take i
  refine forGo_inv I ?_ ?_ ?_
  · exact ⟨hb1, [], none, none, none, none, none, rfl, rfl, rfl, rfl⟩
  · rintro i e sl S2 he ⟨hb2, qs, t5, t6, t7, t8, t9, rfl, hl, hq, hqs⟩
    rw [List.getElem?_map] at he
    obtain ⟨x, hxi, rfl⟩ := Option.map_eq_some_iff.mp he
    have hxm := hx2 x (List.mem_of_getElem? hxi)
    rw [s_forB]
    (try simp only [wAll, frzS, wpLc, wipeS, zipS, enmS, OV.fz, reduceIte, List.getElem?_cons_zero, List.getElem?_cons_succ, List.set_cons_zero, List.set_cons_succ, Option.map_some, Option.map_none, if_true, if_false, Bool.false_eq_true, ite_true, ite_false, Bool.not_true, Bool.not_false, true_and, and_true, exists_eq_left, Bool.true_and, Bool.and_true, Bool.false_and, Bool.and_false, Bool.true_or, Bool.false_or, Bool.or_true, Bool.or_false])
    rw [lc_fst (by simp) off]
    (try simp only [wAll, frzS, wpLc, wipeS, zipS, enmS, OV.fz, reduceIte, List.getElem?_cons_zero, List.getElem?_cons_succ, List.set_cons_zero, List.set_cons_succ, Option.map_some, Option.map_none, if_true, if_false, Bool.false_eq_true, ite_true, ite_false, Bool.not_true, Bool.not_false, true_and, and_true, exists_eq_left, Bool.true_and, Bool.and_true, Bool.false_and, Bool.and_false, Bool.true_or, Bool.false_or, Bool.or_true, Bool.or_false])
    rw [show List.map (fun d => strOf (itm d 0)) fs = fsts fs from rfl]
    refine b19 hb2 (by decide) (by decide) fun z S3 hb3 hz0 hz1 => ?_
    (try simp only [wAll, frzS, wpLc, wipeS, zipS, enmS, OV.fz, reduceIte, List.getElem?_cons_zero, List.getElem?_cons_succ, List.set_cons_zero, List.set_cons_succ, Option.map_some, Option.map_none, if_true, if_false, Bool.false_eq_true, ite_true, ite_false, Bool.not_true, Bool.not_false, true_and, and_true, exists_eq_left, Bool.true_and, Bool.and_true, Bool.false_and, Bool.and_false, Bool.true_or, Bool.false_or, Bool.or_true, Bool.or_false])
    refine ⟨by omega, ?_⟩
    have hrl : (rngD 0 ((1 : Int) + z).toNat).length = ((1 : Int) + z).toNat := by simp [rngD]
    refine lc_inv (fun i ys S => Bag S r ∧ ys.length = i ∧ ys.all (isRule (fsts fs ++ [("arg" : Str)])) = true) ⟨hb3, rfl, rfl⟩ ?_ ?_
    · rintro j e ys S4 he ⟨hb4, hyl, hya⟩
      (try simp only [wAll, frzS, wpLc, wipeS, zipS, enmS, OV.fz, reduceIte, List.getElem?_cons_zero, List.getElem?_cons_succ, List.set_cons_zero, List.set_cons_succ, Option.map_some, Option.map_none, if_true, if_false, Bool.false_eq_true, ite_true, ite_false, Bool.not_true, Bool.not_false, true_and, and_true, exists_eq_left, Bool.true_and, Bool.and_true, Bool.false_and, Bool.and_false, Bool.true_or, Bool.false_or, Bool.or_true, Bool.or_false])
      rw [o_addln, op1_if]
      refine ⟨by simp; show _ ≤ 16777216; omega, ?_⟩
      (try simp only [wAll, frzS, wpLc, wipeS, zipS, enmS, OV.fz, reduceIte, List.getElem?_cons_zero, List.getElem?_cons_succ, List.set_cons_zero, List.set_cons_succ, Option.map_some, Option.map_none, if_true, if_false, Bool.false_eq_true, ite_true, ite_false, Bool.not_true, Bool.not_false, true_and, and_true, exists_eq_left, Bool.true_and, Bool.and_true, Bool.false_and, Bool.and_false, Bool.true_or, Bool.false_or, Bool.or_true, Bool.or_false])
      rw [show [PyData.str (Str.ofString "arg")] = List.map PyData.str [("arg" : Str)] from rfl, ← List.map_append]
      refine b25 (k := k) hb4 (by simp; omega) on ol (fun y hy => ⟨List.mem_append_left _ hy, nm_arg (onm y hy)⟩) fun d S5 hb5 hd _ => ?_
      (try simp only [wAll, frzS, wpLc, wipeS, zipS, enmS, OV.fz, reduceIte, List.getElem?_cons_zero, List.getElem?_cons_succ, List.set_cons_zero, List.set_cons_succ, Option.map_some, Option.map_none, if_true, if_false, Bool.false_eq_true, ite_true, ite_false, Bool.not_true, Bool.not_false, true_and, and_true, exists_eq_left, Bool.true_and, Bool.and_true, Bool.false_and, Bool.and_false, Bool.true_or, Bool.false_or, Bool.or_true, Bool.or_false])
      exact ⟨hb5, by simp [hyl], by rw [List.all_append, hya]; simp [hd]⟩
    · rintro ys S4 ⟨hb4, hyl, hya⟩
      rw [hrl] at hyl
      (try simp only [wAll, frzS, wpLc, wipeS, zipS, enmS, OV.fz, reduceIte, List.getElem?_cons_zero, List.getElem?_cons_succ, List.set_cons_zero, List.set_cons_succ, Option.map_some, Option.map_none, if_true, if_false, Bool.false_eq_true, ite_true, ite_false, Bool.not_true, Bool.not_false, true_and, and_true, exists_eq_left, Bool.true_and, Bool.and_true, Bool.false_and, Bool.and_false, Bool.true_or, Bool.false_or, Bool.or_true, Bool.or_false])
      refine b20 hb4 (by simp) (by simp) fun d hd S5 hb5 => ?_
      obtain ⟨c, rfl, hc1, hc3⟩ : ∃ m : Int, d = .int m ∧ 1 ≤ m ∧ m ≤ 3 := by
        simp only [List.mem_cons, List.not_mem_nil, or_false] at hd
        rcases hd with rfl | rfl | rfl | rfl | rfl <;> exact ⟨_, rfl, by decide, by decide⟩
      (try simp only [wAll, frzS, wpLc, wipeS, zipS, enmS, OV.fz, reduceIte, List.getElem?_cons_zero, List.getElem?_cons_succ, List.set_cons_zero, List.set_cons_succ, Option.map_some, Option.map_none, if_true, if_false, Bool.false_eq_true, ite_true, ite_false, Bool.not_true, Bool.not_false, true_and, and_true, exists_eq_left, Bool.true_and, Bool.and_true, Bool.false_and, Bool.and_false, Bool.true_or, Bool.false_or, Bool.or_true, Bool.or_false])
      have hil : i < as.length := (List.getElem?_eq_some_iff.mp hxi).1
      refine ⟨by simp [hl]; show _ ≤ 16777216; omega, hb5, qs ++ [.tuple [.str x, .int c, .tuple ys]], _, _, _, _, _, rfl, by simp [hl], ?_, ?_⟩
      · rw [List.all_append, hq]
        simp [ask_ok hxm hc1 hc3 (rs := ys) (by omega) hya]
      · rw [List.take_succ, hxi]
        simp only [fsts, List.map_append] at hqs ⊢
        rw [hqs]
        rfl
  · rintro sl S2 ⟨hb2, qs, t5, t6, t7, t8, t9, rfl, hl, hq, hqs⟩
    rw [List.length_map] at hl hqs
    rw [List.take_length] at hqs
    have fin : ∀ (S3 : Store) (sw : List PyData), Bag S3 r → isSweep (fsts fs) (.tuple sw) = true → WP (C (k + 5) 20 [.cell r, .val (.list [.str "whole", .str "part", .str "part"])] S3) fun v S4 => asF (.sv v) fun v => op1 (tupS [.val (.tuple fs), v, .val (.tuple qs), .val (.tuple sw)]) fun z => asF z fun v => asFr v fun v => Q v S4 := by
      intro S3 sw hb3 hsw
      refine b20 hb3 (by simp) (by simp) fun d hd S4 hb4 => ?_
      (try simp only [wAll, frzS, wpLc, wipeS, zipS, enmS, OV.fz, reduceIte, List.getElem?_cons_zero, List.getElem?_cons_succ, List.set_cons_zero, List.set_cons_succ, Option.map_some, Option.map_none, if_true, if_false, Bool.false_eq_true, ite_true, ite_false, Bool.not_true, Bool.not_false, true_and, and_true, exists_eq_left, Bool.true_and, Bool.and_true, Bool.false_and, Bool.and_false, Bool.true_or, Bool.false_or, Bool.or_true, Bool.or_false])
      exact h fs d qs sw S4 hb4 (ed_ok hf (manner_of hd) hq (by omega) (by omega) (by rw [hqs]; exact ha) hsw) hfs hqs
    (try simp only [wAll, frzS, wpLc, wipeS, zipS, enmS, OV.fz, reduceIte, List.getElem?_cons_zero, List.getElem?_cons_succ, List.set_cons_zero, List.set_cons_succ, Option.map_some, Option.map_none, if_true, if_false, Bool.false_eq_true, ite_true, ite_false, Bool.not_true, Bool.not_false, true_and, and_true, exists_eq_left, Bool.true_and, Bool.and_true, Bool.false_and, Bool.and_false, Bool.true_or, Bool.false_or, Bool.or_true, Bool.or_false])
    refine b19 hb2 (by decide) (by decide) fun z S3 hb3 _ _ => ?_
    (try simp only [wAll, frzS, wpLc, wipeS, zipS, enmS, OV.fz, reduceIte, List.getElem?_cons_zero, List.getElem?_cons_succ, List.set_cons_zero, List.set_cons_succ, Option.map_some, Option.map_none, if_true, if_false, Bool.false_eq_true, ite_true, ite_false, Bool.not_true, Bool.not_false, true_and, and_true, exists_eq_left, Bool.true_and, Bool.and_true, Bool.false_and, Bool.and_false, Bool.true_or, Bool.false_or, Bool.or_true, Bool.or_false])
    split
    · rw [lc_fst (by simp) off]
      (try simp only [wAll, frzS, wpLc, wipeS, zipS, enmS, OV.fz, reduceIte, List.getElem?_cons_zero, List.getElem?_cons_succ, List.set_cons_zero, List.set_cons_succ, Option.map_some, Option.map_none, if_true, if_false, Bool.false_eq_true, ite_true, ite_false, Bool.not_true, Bool.not_false, true_and, and_true, exists_eq_left, Bool.true_and, Bool.and_true, Bool.false_and, Bool.and_false, Bool.true_or, Bool.false_or, Bool.or_true, Bool.or_false])
      rw [lc_fst (by simp) off]
      (try simp only [wAll, frzS, wpLc, wipeS, zipS, enmS, OV.fz, reduceIte, List.getElem?_cons_zero, List.getElem?_cons_succ, List.set_cons_zero, List.set_cons_succ, Option.map_some, Option.map_none, if_true, if_false, Bool.false_eq_true, ite_true, ite_false, Bool.not_true, Bool.not_false, true_and, and_true, exists_eq_left, Bool.true_and, Bool.and_true, Bool.false_and, Bool.and_false, Bool.true_or, Bool.false_or, Bool.or_true, Bool.or_false])
      rw [show List.map (fun d => strOf (itm d 0)) fs = fsts fs from rfl]
      refine b25 (k := k) hb3 (by omega) on ol (fun y hy => ⟨hy, nm_arg (onm y hy)⟩) fun d S5 hb5 hd hdn => ?_
      (try simp only [wAll, frzS, wpLc, wipeS, zipS, enmS, OV.fz, reduceIte, List.getElem?_cons_zero, List.getElem?_cons_succ, List.set_cons_zero, List.set_cons_succ, Option.map_some, Option.map_none, if_true, if_false, Bool.false_eq_true, ite_true, ite_false, Bool.not_true, Bool.not_false, true_and, and_true, exists_eq_left, Bool.true_and, Bool.and_true, Bool.false_and, Bool.and_false, Bool.true_or, Bool.false_or, Bool.or_true, Bool.or_false])
      have := fin S5 [d] hb5 (sweep_one hd (hdn rfl))
      refine WP.mono this fun v S6 q => ?_
      simpa only [asF_sv] using q
    · have := fin S3 [] hb3 sweep_nil
      refine WP.mono this fun v S6 q => ?_
      simpa only [asF_sv] using q

theorem rule_ok {ns : List Str} {cs ys : List PyData} {a : PyData} (h1 : cs.length ≤ 2) (h2 : cs.all (isCond ns) = true) (h3 : ys.length ≤ 3) (h4 : ys.all (isSet ns) = true) (h5 : asc (fsts ys) = true) (h6 : isNone a = true ∨ isTerm ns a = true) : isRule ns (.tuple [.tuple cs, .tuple ys, a]) = true := by
  show (isRow (.tuple [.tuple cs, .tuple ys, a]) 3 3 && ((isRow (.tuple cs) 0 2 && isRow (.tuple ys) 0 3) && ((cs.all (isCond ns) && ys.all (isSet ns)) && (asc (fsts ys) && (isNone a || isTerm ns a))))) = true
  have e1 : isRow (.tuple cs) 0 2 = true := by simp [isRow]; omega
  have e2 : isRow (.tuple ys) 0 3 = true := by simp [isRow]; omega
  rw [e1, e2, h2, h4, h5]
  rcases h6 with q | q <;> rw [q] <;> simp [isRow]
theorem set_ok {ns : List Str} {x : Str} {t : PyData} (h1 : x ∈ ns) (h2 : x ≠ ("arg" : Str)) (h3 : isTerm ns t = true) : isSet ns (.tuple [.str x, t]) = true := by
  show (isRow (.tuple [.str x, t]) 2 2 && ((!decide (x = ("arg" : Str)) && decide (x ∈ ns)) && isTerm ns t)) = true
  rw [h3, decide_eq_true h1, decide_eq_false h2]
  rfl
theorem opd_str {ns : List Str} {x : Str} (h : x ∈ ns) : isOpd ns (.str x) = true := decide_eq_true h
theorem term_str {ns : List Str} {x : Str} (h : x ∈ ns) : isTerm ns (.str x) = true := opd_str h
theorem term_int {ns : List Str} {i : Int} (h : 0 ≤ i) (h2 : i ≤ 3) : isTerm ns (.int i) = true := by
  show isInt (.int i) 0 3 = true
  simp [isInt]; omega
theorem term_sum {ns : List Str} {a b : PyData} (ha : isOpd ns a = true) (hb : isOpd ns b = true) : isTerm ns (.tuple [.str "sum", a, b]) = true := by
  show (isRow (.tuple [.str "sum", a, b]) 3 3 && (isStrE (.str "sum") "sum" && (isOpd ns a && isOpd ns b))) = true
  rw [ha, hb]; rfl
/-- one store -/
theorem rule_set {ns : List Str} {x : Str} {t : PyData} (h1 : x ∈ ns) (h2 : x ≠ ("arg" : Str)) (h3 : isTerm ns t = true) : isRule ns (.tuple [.tuple [], .tuple [.tuple [.str x, t]], .none]) = true :=
  rule_ok (by simp) rfl (by simp) (by simp [set_ok h1 h2 h3]) rfl (.inl rfl)
theorem rule_tell {ns : List Str} {x : Str} (h1 : x ∈ ns) : isRule ns (.tuple [.tuple [], .tuple [], .str x]) = true :=
  rule_ok (by simp) rfl (by simp) rfl rfl (.inr (term_str h1))
theorem asgPar2 {α : Type} (x y : α) : True := trivial
theorem frz_own {sl : Slots} {i : Nat} {ds : List PyData} (h : sl[i]? = some (some (.own (.lst ds)))) : frzS i sl = sl.set i (some (.val (.list ds))) := by
  unfold frzS; rw [h]; rfl
theorem app_at {sl : Slots} {i : Nat} {ds : List PyData} {v : PyData} (h : sl[i]? = some (some (.own (.lst ds)))) (hl : ds.length < 16777216) : appS sl i v = some (sl.set i (some (.own (.lst (ds ++ [v]))))) := by
  unfold appS; rw [h]; exact if_pos hl
theorem b28 {k r : Nat} {xs as : List Str} {S : Store} {Q : SV → Store → Prop} (hb : Bag S r) (h0 : 1 ≤ xs.length) (hn : xs.Nodup) (hx : ∀ x ∈ xs, isNm (.str x) = true)
    (ha : asc as = true) (ha4 : as.length = 4) (hx2 : ∀ x ∈ as, isNm (.str x) = true)
    (h : ∀ fs m qs sw S', Bag S' r → isEd (.tuple [.tuple fs, m, .tuple qs, .tuple sw]) = true → fsts fs = sortS (xs.take 2) → fsts qs = as → Q (.val (.tuple [.tuple fs, m, .tuple qs, .tuple sw])) S') :
    WP (C (k + 6) 28 [.cell r, .val (.list (xs.map .str)), .val (.list (as.map .str))] S) Q := by
  rw [u28]
  have hcut : cutD (xs.map PyData.str) none (some 2) = (xs.take 2).map .str := by
    have hm : min 2 xs.length ≤ xs.length := Nat.min_le_right ..
    unfold cutD
    rw [HT.sIx_none, show (2 : Int) = ((2 : Nat) : Int) from rfl, HT.sIx_nat, List.length_map, Nat.sub_zero, List.drop_zero, List.map_take]
    rcases Nat.lt_or_ge xs.length 2 with q | q
    · rw [Nat.min_eq_right (by omega), List.take_of_length_le (by simp), List.take_of_length_le (by simp; omega)]
    · rw [Nat.min_eq_left q]
  simp only [s_cons, s_par, w_econs, w_enil, w_call, w_xcons, w_xnil, w_slc, w_ono, w_oyes, w_int, asI_i, w_var, List.getElem?_cons_zero, List.getElem?_cons_succ, slotV_cell, slotV_val, op1_some, asF_sv, o_slcl, asF_new, OV.fz, hcut]
  refine b26 (k := k + 2) hb (by simp; omega) (by simp; omega) (hn.sublist (List.take_sublist ..)) (fun x hxm => hx x (List.mem_of_mem_take hxm)) fun fs S1 hb1 hf hfs => ?_
  obtain ⟨on, ol, onm, off⟩ := fields_own (xs := xs) hf
  have frow : isRow (.tuple fs) 1 3 = true := by
    unfold areFields at hf
    rw [Bool.and_eq_true] at hf
    exact hf.1
  have fl : 1 ≤ fs.length := by
    have := (isRow_tup frow).2.1
    have e : itms (.tuple fs) = fs := rfl
    rw [e] at this
    omega
  obtain ⟨one, r1, e1, m1⟩ : ∃ x r, atI fs 0 = some (.tuple (.str x :: r)) ∧ x ∈ fsts fs := by
    obtain ⟨x, r, e⟩ := off (fs.getD 0 .none) (by rw [List.getD_eq_getElem?_getD, List.getElem?_eq_getElem (by omega)]; exact List.getElem_mem _)
    refine ⟨x, r, by rw [atI_get (i := 0) (j := 0) rfl (by omega), e], ?_⟩
    exact List.mem_map.mpr ⟨fs.getD 0 .none, by rw [List.getD_eq_getElem?_getD, List.getElem?_eq_getElem (by omega)]; exact List.getElem_mem _, by rw [e]; rfl⟩
  obtain ⟨oth, r2, e2, m2⟩ : ∃ x r, atI fs (-1) = some (.tuple (.str x :: r)) ∧ x ∈ fsts fs := by
    have hat : atI fs (-1) = some (fs.getD (fs.length - 1) .none) := by
      unfold atI ixN
      rw [if_neg (by decide), if_pos (by omega)]
      have : ((-1 : Int) + (fs.length : Int)).toNat = fs.length - 1 := by omega
      show fs[((-1 : Int) + (fs.length : Int)).toNat]? = _
      rw [this, List.getD_eq_getElem?_getD, List.getElem?_eq_getElem (by omega)]
      rfl
    obtain ⟨x, r, e⟩ := off (fs.getD (fs.length - 1) .none) (by rw [List.getD_eq_getElem?_getD, List.getElem?_eq_getElem (by omega)]; exact List.getElem_mem _)
    refine ⟨x, r, by rw [hat, e], ?_⟩
    exact List.mem_map.mpr ⟨fs.getD (fs.length - 1) .none, by rw [List.getD_eq_getElem?_getD, List.getElem?_eq_getElem (by omega)]; exact List.getElem_mem _, by rw [e]; rfl⟩
  have a1 := nm_arg (onm _ m1)
  have a2 := nm_arg (onm _ m2)
  have hd0 : ∀ (x : Str) (r : List PyData), atI (.str x :: r) 0 = some (.str x) := fun x r => by rw [atI_get (i := 0) (j := 0) rfl (by simp)]; rfl
  simp only [w_lst, w_xnil, l_0, op1_some, sr_v, sr_n, sr_nil, List.set_cons_succ, List.set_cons_zero, thenO_nx, w_sub, w_var, List.getElem?_cons_zero, List.getElem?_cons_succ, slotV_val, w_int, w_neg, asI_i, o_subt, e1, e2, Option.map_some, hd0]
  (try simp only [wAll, wpLc, wipeS, zipS, enmS, OV.fz, reduceIte, List.getElem?_cons_zero, List.getElem?_cons_succ, List.set_cons_zero, List.set_cons_succ, Option.map_some, Option.map_none, if_true, if_false, Bool.false_eq_true, ite_true, ite_false, Bool.not_true, Bool.not_false, true_and, and_true, exists_eq_left, Bool.true_and, Bool.and_true, Bool.false_and, Bool.and_false, Bool.true_or, Bool.false_or, Bool.or_true, Bool.or_false])
  refine b20 hb1 (by simp) (by simp) fun rs1 hrs1 S2 hb2 => ?_
  (try simp only [wAll, wpLc, wipeS, zipS, enmS, OV.fz, reduceIte, List.getElem?_cons_zero, List.getElem?_cons_succ, List.set_cons_zero, List.set_cons_succ, Option.map_some, Option.map_none, if_true, if_false, Bool.false_eq_true, ite_true, ite_false, Bool.not_true, Bool.not_false, true_and, and_true, exists_eq_left, Bool.true_and, Bool.and_true, Bool.false_and, Bool.and_false, Bool.true_or, Bool.false_or, Bool.or_true, Bool.or_false])
  rw [app_at (i := 4) rfl (by simp)]
  (try simp only [wAll, wpLc, wipeS, zipS, enmS, OV.fz, reduceIte, List.getElem?_cons_zero, List.getElem?_cons_succ, List.set_cons_zero, List.set_cons_succ, Option.map_some, Option.map_none, if_true, if_false, Bool.false_eq_true, ite_true, ite_false, Bool.not_true, Bool.not_false, true_and, and_true, exists_eq_left, Bool.true_and, Bool.and_true, Bool.false_and, Bool.and_false, Bool.true_or, Bool.false_or, Bool.or_true, Bool.or_false])
  refine b20 hb2 (by simp) (by simp) fun c2 hc2 S3 hb3 => ?_
  (try simp only [wAll, wpLc, wipeS, zipS, enmS, OV.fz, reduceIte, List.getElem?_cons_zero, List.getElem?_cons_succ, List.set_cons_zero, List.set_cons_succ, Option.map_some, Option.map_none, if_true, if_false, Bool.false_eq_true, ite_true, ite_false, Bool.not_true, Bool.not_false, true_and, and_true, exists_eq_left, Bool.true_and, Bool.and_true, Bool.false_and, Bool.and_false, Bool.true_or, Bool.false_or, Bool.or_true, Bool.or_false])
  rw [app_at (i := 4) rfl (by simp)]
  (try simp only [wAll, wpLc, wipeS, zipS, enmS, OV.fz, reduceIte, List.getElem?_cons_zero, List.getElem?_cons_succ, List.set_cons_zero, List.set_cons_succ, Option.map_some, Option.map_none, if_true, if_false, Bool.false_eq_true, ite_true, ite_false, Bool.not_true, Bool.not_false, true_and, and_true, exists_eq_left, Bool.true_and, Bool.and_true, Bool.false_and, Bool.and_false, Bool.true_or, Bool.false_or, Bool.or_true, Bool.or_false])
  rw [app_at (i := 4) rfl (by simp)]
  (try simp only [wAll, wpLc, wipeS, zipS, enmS, OV.fz, reduceIte, List.getElem?_cons_zero, List.getElem?_cons_succ, List.set_cons_zero, List.set_cons_succ, Option.map_some, Option.map_none, if_true, if_false, Bool.false_eq_true, ite_true, ite_false, Bool.not_true, Bool.not_false, true_and, and_true, exists_eq_left, Bool.true_and, Bool.and_true, Bool.false_and, Bool.and_false, Bool.true_or, Bool.false_or, Bool.or_true, Bool.or_false])
  rw [app_at (i := 4) rfl (by simp)]
  (try simp only [wAll, wpLc, wipeS, zipS, enmS, OV.fz, reduceIte, List.getElem?_cons_zero, List.getElem?_cons_succ, List.set_cons_zero, List.set_cons_succ, Option.map_some, Option.map_none, if_true, if_false, Bool.false_eq_true, ite_true, ite_false, Bool.not_true, Bool.not_false, true_and, and_true, exists_eq_left, Bool.true_and, Bool.and_true, Bool.false_and, Bool.and_false, Bool.true_or, Bool.false_or, Bool.or_true, Bool.or_false])
  rw [frz_own (i := 4) rfl]
  (try simp only [wAll, wpLc, wipeS, zipS, enmS, OV.fz, reduceIte, List.getElem?_cons_zero, List.getElem?_cons_succ, List.set_cons_zero, List.set_cons_succ, Option.map_some, Option.map_none, if_true, if_false, Bool.false_eq_true, ite_true, ite_false, Bool.not_true, Bool.not_false, true_and, and_true, exists_eq_left, Bool.true_and, Bool.and_true, Bool.false_and, Bool.and_false, Bool.true_or, Bool.false_or, Bool.or_true, Bool.or_false])
  obtain ⟨x0, x1, x2, x3, rfl⟩ : ∃ x0 x1 x2 x3, as = [x0, x1, x2, x3] := by
    match as, ha4 with
    | [a, b, c, d], _ => exact ⟨a, b, c, d, rfl⟩
  obtain ⟨q1, rfl, hq1, hql1⟩ : ∃ q : List PyData, rs1 = .tuple q ∧ q.all (isRule (fsts fs ++ [("arg" : Str)])) = true ∧ q.length ≤ 4 := by
    have m1' : one ∈ fsts fs ++ [("arg" : Str)] := List.mem_append_left _ m1
    simp only [List.mem_cons, List.not_mem_nil, or_false] at hrs1
    rcases hrs1 with rfl | rfl
    · refine ⟨_, rfl, ?_, by simp⟩
      simp only [List.all_cons, List.all_nil, Bool.and_true]
      exact rule_set m1' a1 (term_sum (opd_str m1') rfl)
    · refine ⟨_, rfl, ?_, by simp⟩
      simp only [List.all_cons, List.all_nil, Bool.and_true, Bool.and_eq_true]
      refine ⟨rule_ok (by simp) ?_ (by simp) ?_ rfl (.inl rfl), rule_set m1' a1 rfl⟩
      · simp only [List.all_cons, List.all_nil, Bool.and_true]
        exact cond_ok (opd_str m1') rfl (by simp)
      · simp only [List.all_cons, List.all_nil, Bool.and_true]
        exact set_ok m1' a1 rfl
  obtain ⟨c, rfl, hc1, hc3⟩ : ∃ m : Int, c2 = .int m ∧ 1 ≤ m ∧ m ≤ 3 := by
    simp only [List.mem_cons, List.not_mem_nil, or_false] at hc2
    rcases hc2 with rfl | rfl <;> exact ⟨_, rfl, by decide, by decide⟩
  have m1' : one ∈ fsts fs ++ [("arg" : Str)] := List.mem_append_left _ m1
  have m2' : oth ∈ fsts fs ++ [("arg" : Str)] := List.mem_append_left _ m2
  simp only [List.nil_append, List.cons_append]
  generalize hw : ([PyData.tuple [PyData.int 1, PyData.tuple q1], _, _, _] : List PyData) = rows
  have hz : zipD (List.map PyData.str [x0, x1, x2, x3]) rows = [.tuple [.str x0, .tuple [.int 1, .tuple q1]], .tuple [.str x1, .tuple [.int c, .tuple [.tuple [.tuple [], .tuple [.tuple [.str oth, .str "arg"]], .none]]]],
      .tuple [.str x2, .tuple [.int 1, .tuple [.tuple [.tuple [], .tuple [], .str one]]]], .tuple [.str x3, .tuple [.int 1, .tuple [.tuple [.tuple [], .tuple [], .str oth]]]]] := by
    rw [← hw]; rfl
  rw [hz, lc_map (fun d => .tuple (itm d 0 :: itms (itm d 1)))]
  · have hx0 := hx2 x0 (by simp)
    have hx1 := hx2 x1 (by simp)
    have hx2' := hx2 x2 (by simp)
    have hx3 := hx2 x3 (by simp)
    have hqs : ([PyData.tuple [.str x0, .int 1, .tuple q1], .tuple [.str x1, .int c, .tuple [.tuple [.tuple [], .tuple [.tuple [.str oth, .str "arg"]], .none]]], .tuple [.str x2, .int 1, .tuple [.tuple [.tuple [], .tuple [], .str one]]], .tuple [.str x3, .int 1, .tuple [.tuple [.tuple [], .tuple [], .str oth]]]]).all (isAsk (fsts fs)) = true := by
      simp only [List.all_cons, List.all_nil, Bool.and_true, Bool.and_eq_true]
      refine ⟨ask_ok hx0 (by decide) (by decide) hql1 hq1, ask_ok hx1 hc1 hc3 (by simp) ?_, ask_ok hx2' (by decide) (by decide) (by simp) ?_, ask_ok hx3 (by decide) (by decide) (by simp) ?_⟩
      · simp only [List.all_cons, List.all_nil, Bool.and_true]
        exact rule_set m2' a2 (term_str (by simp))
      · simp only [List.all_cons, List.all_nil, Bool.and_true]
        exact rule_tell m1'
      · simp only [List.all_cons, List.all_nil, Bool.and_true]
        exact rule_tell m2'
    have fin : ∀ (S3 : Store) (sw : List PyData), Bag S3 r → isSweep (fsts fs) (.tuple sw) = true → WP (C (k + 5) 20 [.cell r, .val (.list [.str "whole", .str "part", .str "part"])] S3) fun v S4 => asF (.sv v) fun v => op1 (tupS [.val (.tuple fs), v, .val (.tuple [.tuple [.str x0, .int 1, .tuple q1], .tuple [.str x1, .int c, .tuple [.tuple [.tuple [], .tuple [.tuple [.str oth, .str "arg"]], .none]]], .tuple [.str x2, .int 1, .tuple [.tuple [.tuple [], .tuple [], .str one]]], .tuple [.str x3, .int 1, .tuple [.tuple [.tuple [], .tuple [], .str oth]]]]), .val (.tuple sw)]) fun z => asF z fun v => asFr v fun v => Q v S4 := by
      intro S3 sw hb3 hsw
      refine b20 hb3 (by simp) (by simp) fun d hd S4 hb4 => ?_
      (try simp only [wAll, frzS, wpLc, wipeS, zipS, enmS, OV.fz, reduceIte, List.getElem?_cons_zero, List.getElem?_cons_succ, List.set_cons_zero, List.set_cons_succ, Option.map_some, Option.map_none, if_true, if_false, Bool.false_eq_true, ite_true, ite_false, Bool.not_true, Bool.not_false, true_and, and_true, exists_eq_left, Bool.true_and, Bool.and_true, Bool.false_and, Bool.and_false, Bool.true_or, Bool.false_or, Bool.or_true, Bool.or_false])
      exact h fs d _ sw S4 hb4 (ed_ok hf (manner_of hd) hqs (by simp) (by simp) ha hsw) hfs rfl
    (try simp only [wAll, frzS, wpLc, wipeS, zipS, enmS, OV.fz, reduceIte, List.getElem?_cons_zero, List.getElem?_cons_succ, List.set_cons_zero, List.set_cons_succ, Option.map_some, Option.map_none, if_true, if_false, Bool.false_eq_true, ite_true, ite_false, Bool.not_true, Bool.not_false, true_and, and_true, exists_eq_left, Bool.true_and, Bool.and_true, Bool.false_and, Bool.and_false, Bool.true_or, Bool.false_or, Bool.or_true, Bool.or_false])
    refine b19 hb3 (by decide) (by decide) fun z S4 hb4 _ _ => ?_
    (try simp only [wAll, frzS, wpLc, wipeS, zipS, enmS, OV.fz, reduceIte, List.getElem?_cons_zero, List.getElem?_cons_succ, List.set_cons_zero, List.set_cons_succ, Option.map_some, Option.map_none, if_true, if_false, Bool.false_eq_true, ite_true, ite_false, Bool.not_true, Bool.not_false, true_and, and_true, exists_eq_left, Bool.true_and, Bool.and_true, Bool.false_and, Bool.and_false, Bool.true_or, Bool.false_or, Bool.or_true, Bool.or_false])
    split
    · have := fin S4 [.tuple [.tuple [], .tuple [.tuple [.str oth, .str oth]], .none]] hb4 (sweep_one (rule_set m2 a2 (term_str m2)) rfl)
      refine WP.mono this fun v S6 q => ?_
      simp only [asF_sv] at q ⊢
      exact q
    · have := fin S4 [] hb4 sweep_nil
      refine WP.mono this fun v S6 q => ?_
      simp only [asF_sv] at q ⊢
      exact q
  · intro d hd
    simp only [List.mem_cons, List.not_mem_nil, or_false] at hd
    rcases hd with rfl | rfl | rfl | rfl <;> ((try simp only [wAll, frzS, wpLc, wipeS, zipS, enmS, OV.fz, reduceIte, List.getElem?_cons_zero, List.getElem?_cons_succ, List.set_cons_zero, List.set_cons_succ, Option.map_some, Option.map_none, if_true, if_false, Bool.false_eq_true, ite_true, ite_false, Bool.not_true, Bool.not_false, true_and, and_true, exists_eq_left, Bool.true_and, Bool.and_true, Bool.false_and, Bool.and_false, Bool.true_or, Bool.false_or, Bool.or_true, Bool.or_false]); exact ⟨by simp; decide, rfl⟩)

def sI (d : PyData) : Option Str := match d with
  | .str x => some x
  | _ => none
def wordsT (t : PyData) : List Str := (if isTup t then itms t else [t]).filterMap sI
theorem filt_str : ∀ l : List PyData, l.filter isStr = (l.filterMap sI).map .str
  | [] => rfl
  | d :: l => by
    rw [List.filter_cons, List.filterMap_cons, filt_str l]
    cases d <;> rfl
def partOk (d : PyData) : Prop := d = .tuple (itms d) ∧ (itms d).length ≤ 3 ∧ ∀ t ∈ itms d, isTup t = true → (itms t).length ≤ 3
def bT : Sms := .cons (.asg (.nm 7) (.ite (.isi (.var 6) .tuple) (.var 6) (.tup (.cons (.var 6) .nil)))) (.cons (.asg (.nm 1) (.bop .add (.var 1) (.lc (.var 8) (.nm 8) (.seq (.var 7)) (.yes (.isi (.var 8) .str)) [8]))) (.cons (.frz 1) .nil))
theorem wordsT_len {t : PyData} (h : isTup t = true → (itms t).length ≤ 3) : (wordsT t).length ≤ 3 := by
  unfold wordsT
  cases ht : isTup t with
  | true => exact Nat.le_trans (List.length_filterMap_le _ _) (h ht)
  | false => exact Nat.le_trans (List.length_filterMap_le _ _) (by simp)
theorem bT_loop {k : Nat} {ts : List PyData} {W : List Str} {v0 a b c p t6 t7 t8 : Option SV} {S : Store} {Q : Out → Prop} (hW : W.length + 3 * ts.length ≤ 10000) (ht : ∀ t ∈ ts, isTup t = true → (itms t).length ≤ 3)
    (h : ∀ t6 t7, Q (.nx [v0, some (.val (.list ((W ++ ts.flatMap wordsT).map .str))), a, b, c, p, t6, t7, t8] S)) : op1 (forGo (forB (Ek k) (.nm 6) bT) ts [v0, some (.val (.list (W.map .str))), a, b, c, p, t6, t7, t8] S) Q := by
  refine forGo_inv (fun i sl S' => S' = S ∧ ∃ V t6 t7, sl = [v0, some (.val (.list (V.map .str))), a, b, c, p, t6, t7, t8] ∧ V = W ++ (ts.take i).flatMap wordsT ∧ V.length ≤ W.length + 3 * i) ?_ ?_ ?_
  · exact ⟨rfl, W, t6, t7, rfl, by simp, by omega⟩
  · rintro i t sl S' he ⟨rfl, V, t6, t7, rfl, hV, hl⟩
    have hi := (List.getElem?_eq_some_iff.mp he).1
    have htm := ht t (List.mem_of_getElem? he)
    rw [s_forB]
    unfold bT
    (try simp only [wAll, frzS, wpLc, wipeS, zipS, enmS, OV.fz, reduceIte, List.getElem?_cons_zero, List.getElem?_cons_succ, List.set_cons_zero, List.set_cons_succ, Option.map_some, Option.map_none, if_true, if_false, Bool.false_eq_true, ite_true, ite_false, Bool.not_true, Bool.not_false, true_and, and_true, exists_eq_left, Bool.true_and, Bool.and_true, Bool.false_and, Bool.and_false, Bool.true_or, Bool.false_or, Bool.or_true, Bool.or_false])
    have key : ∀ (x : PyData) (l : List PyData), x = .tuple l → l.filterMap sI = wordsT t → op1 (exSs (Ek k) [v0, some (.val (.list (V.map .str))), a, b, c, p, some (.val t), some (.val x), t8] S' (.cons (.asg (.nm 1) (.bop .add (.var 1) (.lc (.var 8) (.nm 8) (.seq (.var 7)) (.yes (.isi (.var 8) .str)) [8]))) (.cons (.frz 1) .nil))) (loopQ (fun sl S'' => S'' = S' ∧ ∃ V t6 t7, sl = [v0, some (.val (.list (V.map .str))), a, b, c, p, t6, t7, t8] ∧ V = W ++ (ts.take (i + 1)).flatMap wordsT ∧ V.length ≤ W.length + 3 * (i + 1)) Q) := by
      rintro _ l rfl hl2
      (try simp only [wAll, frzS, wpLc, wipeS, zipS, enmS, OV.fz, reduceIte, List.getElem?_cons_zero, List.getElem?_cons_succ, List.set_cons_zero, List.set_cons_succ, Option.map_some, Option.map_none, if_true, if_false, Bool.false_eq_true, ite_true, ite_false, Bool.not_true, Bool.not_false, true_and, and_true, exists_eq_left, Bool.true_and, Bool.and_true, Bool.false_and, Bool.and_false, Bool.true_or, Bool.false_or, Bool.or_true, Bool.or_false])
      rw [lc_filter (fun d => !isStr d) fun d _ => by
        (try simp only [wAll, frzS, wpLc, wipeS, zipS, enmS, OV.fz, reduceIte, List.getElem?_cons_zero, List.getElem?_cons_succ, List.set_cons_zero, List.set_cons_succ, Option.map_some, Option.map_none, if_true, if_false, Bool.false_eq_true, ite_true, ite_false, Bool.not_true, Bool.not_false, true_and, and_true, exists_eq_left, Bool.true_and, Bool.and_true, Bool.false_and, Bool.and_false, Bool.true_or, Bool.false_or, Bool.or_true, Bool.or_false])
        cases isStr d <;> simp]
      (try simp only [wAll, frzS, wpLc, wipeS, zipS, enmS, OV.fz, reduceIte, List.getElem?_cons_zero, List.getElem?_cons_succ, List.set_cons_zero, List.set_cons_succ, Option.map_some, Option.map_none, if_true, if_false, Bool.false_eq_true, ite_true, ite_false, Bool.not_true, Bool.not_false, true_and, and_true, exists_eq_left, Bool.true_and, Bool.and_true, Bool.false_and, Bool.and_false, Bool.true_or, Bool.false_or, Bool.or_true, Bool.or_false])
      simp only [Bool.not_not, filt_str, hl2]
      rw [o_addln, op1_if]
      have := wordsT_len htm
      refine ⟨by simp; show _ ≤ 16777216; omega, ?_⟩
      (try simp only [wAll, frzS, wpLc, wipeS, zipS, enmS, OV.fz, reduceIte, List.getElem?_cons_zero, List.getElem?_cons_succ, List.set_cons_zero, List.set_cons_succ, Option.map_some, Option.map_none, if_true, if_false, Bool.false_eq_true, ite_true, ite_false, Bool.not_true, Bool.not_false, true_and, and_true, exists_eq_left, Bool.true_and, Bool.and_true, Bool.false_and, Bool.and_false, Bool.true_or, Bool.false_or, Bool.or_true, Bool.or_false])
      refine ⟨V ++ wordsT t, _, _, by rw [List.map_append], ?_, by simp; omega⟩
      rw [List.take_succ, he, hV]
      simp
    cases htt : isTup t with
    | true =>
      (try simp only [wAll, frzS, wpLc, wipeS, zipS, enmS, OV.fz, reduceIte, List.getElem?_cons_zero, List.getElem?_cons_succ, List.set_cons_zero, List.set_cons_succ, Option.map_some, Option.map_none, if_true, if_false, Bool.false_eq_true, ite_true, ite_false, Bool.not_true, Bool.not_false, true_and, and_true, exists_eq_left, Bool.true_and, Bool.and_true, Bool.false_and, Bool.and_false, Bool.true_or, Bool.false_or, Bool.or_true, Bool.or_false])
      have := key t (itms t) (isTup_eq htt) (by unfold wordsT; rw [htt]; rfl)
      simp only [s_cons, s_asg, s_frz, s_nil, frzS, List.getElem?_cons_zero, List.getElem?_cons_succ, List.set_cons_succ, List.set_cons_zero, w_bop, w_var, w_lc, slotV_val, op1_some, w_iseq, asF_sv, thenO_nx, loopQ_nx] at this
      exact this
    | false =>
      (try simp only [wAll, frzS, wpLc, wipeS, zipS, enmS, OV.fz, reduceIte, List.getElem?_cons_zero, List.getElem?_cons_succ, List.set_cons_zero, List.set_cons_succ, Option.map_some, Option.map_none, if_true, if_false, Bool.false_eq_true, ite_true, ite_false, Bool.not_true, Bool.not_false, true_and, and_true, exists_eq_left, Bool.true_and, Bool.and_true, Bool.false_and, Bool.and_false, Bool.true_or, Bool.false_or, Bool.or_true, Bool.or_false])
      have := key (.tuple [t]) [t] rfl (by unfold wordsT; rw [htt]; rfl)
      simp only [s_cons, s_asg, s_frz, s_nil, frzS, List.getElem?_cons_zero, List.getElem?_cons_succ, List.set_cons_succ, List.set_cons_zero, w_bop, w_var, w_lc, slotV_val, op1_some, w_iseq, asF_sv, thenO_nx, loopQ_nx, o_seqt] at this
      exact this
  · rintro sl S' ⟨rfl, V, t6, t7, rfl, hV, hl⟩
    rw [List.take_length] at hV
    rw [hV]
    exact h t6 t7
def wordsP (p : PyData) : List Str := (itms p).flatMap wordsT
theorem wordsP_len {p : PyData} (h : partOk p) : (wordsP p).length ≤ 9 := by
  unfold wordsP
  obtain ⟨_, h2, h3⟩ := h
  match itms p, h2, h3 with
  | [], _, _ => simp
  | [a], _, h => have := wordsT_len (h a (by simp)); simp; omega
  | [a, b], _, h =>
    have := wordsT_len (h a (by simp))
    have := wordsT_len (h b (by simp))
    simp; omega
  | [a, b, c], _, h =>
    have := wordsT_len (h a (by simp))
    have := wordsT_len (h b (by simp))
    have := wordsT_len (h c (by simp))
    simp; omega
  | _ :: _ :: _ :: _ :: r, h, _ => simp at h
theorem bP_loop {k : Nat} {ps : List PyData} {W : List Str} {v0 a b c t5 t6 t7 t8 : Option SV} {S : Store} {Q : Out → Prop} (hW : W.length + 9 * ps.length ≤ 9000) (hp : ∀ p ∈ ps, partOk p)
    (h : ∀ t5 t6 t7, Q (.nx [v0, some (.val (.list ((W ++ ps.flatMap wordsP).map .str))), a, b, c, t5, t6, t7, t8] S)) : op1 (forGo (forB (Ek k) (.nm 5) (.cons (.forr (.nm 6) (.seq (.var 5)) bT) .nil)) ps [v0, some (.val (.list (W.map .str))), a, b, c, t5, t6, t7, t8] S) Q := by
  refine forGo_inv (fun i sl S' => S' = S ∧ ∃ V t5 t6 t7, sl = [v0, some (.val (.list (V.map .str))), a, b, c, t5, t6, t7, t8] ∧ V = W ++ (ps.take i).flatMap wordsP ∧ V.length ≤ W.length + 9 * i) ?_ ?_ ?_
  · exact ⟨rfl, W, t5, t6, t7, rfl, by simp, by omega⟩
  · rintro i p sl S' he ⟨rfl, V, t5, t6, t7, rfl, hV, hl⟩
    have hi := (List.getElem?_eq_some_iff.mp he).1
    have hpm := hp p (List.mem_of_getElem? he)
    have hpm' := hpm
    obtain ⟨h1, h2, h3⟩ := hpm
    rw [s_forB]
    (try simp only [wAll, frzS, wpLc, wipeS, zipS, enmS, OV.fz, reduceIte, List.getElem?_cons_zero, List.getElem?_cons_succ, List.set_cons_zero, List.set_cons_succ, Option.map_some, Option.map_none, if_true, if_false, Bool.false_eq_true, ite_true, ite_false, Bool.not_true, Bool.not_false, true_and, and_true, exists_eq_left, Bool.true_and, Bool.and_true, Bool.false_and, Bool.and_false, Bool.true_or, Bool.false_or, Bool.or_true, Bool.or_false])
    rw [show seqD (.val p) = some (itms p) from by rw [h1]; rfl]
    (try simp only [wAll, frzS, wpLc, wipeS, zipS, enmS, OV.fz, reduceIte, List.getElem?_cons_zero, List.getElem?_cons_succ, List.set_cons_zero, List.set_cons_succ, Option.map_some, Option.map_none, if_true, if_false, Bool.false_eq_true, ite_true, ite_false, Bool.not_true, Bool.not_false, true_and, and_true, exists_eq_left, Bool.true_and, Bool.and_true, Bool.false_and, Bool.and_false, Bool.true_or, Bool.false_or, Bool.or_true, Bool.or_false])
    refine bT_loop (by omega) h3 fun t6 t7 => ?_
    (try simp only [wAll, frzS, wpLc, wipeS, zipS, enmS, OV.fz, reduceIte, List.getElem?_cons_zero, List.getElem?_cons_succ, List.set_cons_zero, List.set_cons_succ, Option.map_some, Option.map_none, if_true, if_false, Bool.false_eq_true, ite_true, ite_false, Bool.not_true, Bool.not_false, true_and, and_true, exists_eq_left, Bool.true_and, Bool.and_true, Bool.false_and, Bool.and_false, Bool.true_or, Bool.false_or, Bool.or_true, Bool.or_false])
    have := wordsP_len hpm'
    refine ⟨V ++ wordsP p, _, _, _, rfl, ?_, by simp; omega⟩
    rw [List.take_succ, he, hV]
    simp
  · rintro sl S' ⟨rfl, V, t5, t6, t7, rfl, hV, hl⟩
    rw [List.take_length] at hV
    rw [hV]
    exact h t5 t6 t7
def partsR (r : PyData) : List PyData := itms (itm r 0) ++ itms (itm r 1) ++ [.tuple [itm r 2]]
def wordsR (r : PyData) : List Str := (partsR r).flatMap wordsP
theorem opd_notup {ns : List Str} {d : PyData} (h : isOpd ns d = true) : isTup d = false := by
  cases d with
  | tuple ds => cases h
  | _ => rfl
theorem term_three {ns : List Str} {d : PyData} (h : isTerm ns d = true) (ht : isTup d = true) : (itms d).length ≤ 3 := by
  unfold isTerm at h
  rw [if_pos ht, Bool.and_eq_true] at h
  have := (isRow_tup h.1).2.2
  omega
theorem row2 {d : PyData} (h : isRow d 2 2 = true) : itms d = [itm d 0, itm d 1] := by
  obtain ⟨h1, h2, h3⟩ := isRow_tup h
  unfold itm
  match itms d, h2, h3 with
  | [a, b], _, _ => rfl
  | [], h, _ => simp at h
  | [_], h, _ => simp at h
  | _ :: _ :: _ :: r, _, h => simp at h; omega
theorem rule_parts {ns : List Str} {r : PyData} (h : isRule ns r = true) : (∀ p ∈ partsR r, partOk p) ∧ (partsR r).length ≤ 6 := by
  unfold isRule at h
  simp only [Bool.and_eq_true] at h
  obtain ⟨h0, ⟨h1, h2⟩, ⟨h3, h4⟩, h5, h6⟩ := h
  have h3 := List.all_eq_true.mp h3
  have h4 := List.all_eq_true.mp h4
  refine ⟨fun p hp => ?_, ?_⟩
  · unfold partsR at hp
    simp only [List.mem_append, List.mem_singleton] at hp
    rcases hp with (hp | hp) | rfl
    · have := h3 p hp
      unfold isCond at this
      simp only [Bool.and_eq_true] at this
      obtain ⟨q1, q2, q3, q4⟩ := this
      refine ⟨(isRow_tup q1).1, by have := (isRow_tup q1).2.2; omega, fun t ht htt => ?_⟩
      rw [row3 q1] at ht
      simp only [List.mem_cons, List.not_mem_nil, or_false] at ht
      rcases ht with rfl | rfl | rfl
      · rw [opd_notup q3] at htt; cases htt
      · cases e : itm p 1 with
        | tuple ds => rw [e] at q2; cases q2
        | _ => rw [e] at htt; cases htt
      · rw [opd_notup q4] at htt; cases htt
    · have := h4 p hp
      unfold isSet at this
      simp only [Bool.and_eq_true] at this
      obtain ⟨q1, q2, q3⟩ := this
      refine ⟨(isRow_tup q1).1, by have := (isRow_tup q1).2.2; omega, fun t ht htt => ?_⟩
      rw [row2 q1] at ht
      simp only [List.mem_cons, List.not_mem_nil, or_false] at ht
      rcases ht with rfl | rfl
      · rw [isTgt_str q2] at htt; cases htt
      · exact term_three q3 htt
    · refine ⟨rfl, by simp [itms], fun t ht htt => ?_⟩
      have : t = itm r 2 := by simpa [itms] using ht
      subst this
      rw [Bool.or_eq_true] at h6
      rcases h6 with q | q
      · cases e : itm r 2 with
        | tuple ds => rw [e] at q; cases q
        | _ => rw [e] at htt; cases htt
      · exact term_three q htt
  · have a1 := (isRow_tup h1).2.2
    have a2 := (isRow_tup h2).2.2
    unfold partsR
    simp only [List.length_append, List.length_singleton]
    omega
def wordsA (rs : List PyData) : List Str := rs.flatMap wordsR

theorem wordsR_len {ns : List Str} {r : PyData} (h : isRule ns r = true) : (wordsR r).length ≤ 54 := by
  obtain ⟨h1, h2⟩ := rule_parts h
  unfold wordsR
  have : ∀ ps : List PyData, (∀ p ∈ ps, partOk p) → (ps.flatMap wordsP).length ≤ 9 * ps.length := by
    intro ps
    induction ps with
    | nil => intro _; simp
    | cons p ps ih =>
      intro h
      have := wordsP_len (h p List.mem_cons_self)
      have := ih fun q hq => h q (List.mem_cons_of_mem _ hq)
      simp only [List.flatMap_cons, List.length_append, List.length_cons]
      omega
  have := this _ h1
  omega
theorem rule_itms {ns : List Str} {r : PyData} (h : isRule ns r = true) : r = .tuple [itm r 0, itm r 1, itm r 2] ∧ itm r 0 = .tuple (itms (itm r 0)) ∧ itm r 1 = .tuple (itms (itm r 1)) ∧ (itms (itm r 0)).length ≤ 2 ∧ (itms (itm r 1)).length ≤ 3 := by
  unfold isRule at h
  simp only [Bool.and_eq_true] at h
  obtain ⟨h0, ⟨h1, h2⟩, _⟩ := h
  refine ⟨?_, (isRow_tup h1).1, (isRow_tup h2).1, by have := (isRow_tup h1).2.2; omega, by have := (isRow_tup h2).2.2; omega⟩
  have := (isRow_tup h0).1
  rw [row3 h0] at this
  exact this
theorem o_lstt {ds : List PyData} : biS .list [.sv (.val (.tuple ds))] = some (.new (.lst ds)) := rfl
theorem b29 {k : Nat} {ns : List Str} {rs : List PyData} {S : Store} {Q : SV → Store → Prop} (hr : rs.all (isRule ns) = true) (hl : rs.length ≤ 100) (h : Q (.val (.list ((wordsA rs).map .str))) S) : WP (C (k + 1) 29 [.val (.tuple rs)] S) Q := by
  rw [u29]
  (try simp only [wAll, frzS, wpLc, wipeS, zipS, enmS, OV.fz, reduceIte, List.getElem?_cons_zero, List.getElem?_cons_succ, List.set_cons_zero, List.set_cons_succ, Option.map_some, Option.map_none, if_true, if_false, Bool.false_eq_true, ite_true, ite_false, Bool.not_true, Bool.not_false, true_and, and_true, exists_eq_left, Bool.true_and, Bool.and_true, Bool.false_and, Bool.and_false, Bool.true_or, Bool.false_or, Bool.or_true, Bool.or_false])
  have hr := List.all_eq_true.mp hr
  rw [show ([] : List PyData) = ([] : List Str).map .str from rfl]
  refine forGo_inv (fun i sl S' => S' = S ∧ ∃ V a b c t5 t6 t7 t8, sl = [some (.val (.tuple rs)), some (.val (.list (V.map .str))), a, b, c, t5, t6, t7, t8] ∧ V = (rs.take i).flatMap wordsR ∧ V.length ≤ 54 * i) ?_ ?_ ?_
  · exact ⟨rfl, [], _, _, _, _, _, _, _, rfl, rfl, by simp⟩
  · rintro i r sl S' he ⟨rfl, V, a, b, c, t5, t6, t7, t8, rfl, hV, hvl⟩
    have hi := (List.getElem?_eq_some_iff.mp he).1
    have hrm := hr r (List.mem_of_getElem? he)
    obtain ⟨e0, e1, e2, z1, z2⟩ := rule_itms hrm
    obtain ⟨p1, p2⟩ := rule_parts hrm
    have pr : partsR r = itms (itm r 0) ++ itms (itm r 1) ++ [.tuple [itm r 2]] := rfl
    have wr : wordsR r = (partsR r).flatMap wordsP := rfl
    have wl := wordsR_len hrm
    generalize itm r 0 = x0 at *
    generalize itm r 1 = x1 at *
    generalize itm r 2 = x2 at *
    rw [s_forB, e0]
    (try simp only [wAll, frzS, wpLc, wipeS, zipS, enmS, OV.fz, reduceIte, List.getElem?_cons_zero, List.getElem?_cons_succ, List.set_cons_zero, List.set_cons_succ, Option.map_some, Option.map_none, if_true, if_false, Bool.false_eq_true, ite_true, ite_false, Bool.not_true, Bool.not_false, true_and, and_true, exists_eq_left, Bool.true_and, Bool.and_true, Bool.false_and, Bool.and_false, Bool.true_or, Bool.false_or, Bool.or_true, Bool.or_false])
    rw [e1, e2]
    (try simp only [wAll, frzS, wpLc, wipeS, zipS, enmS, OV.fz, reduceIte, List.getElem?_cons_zero, List.getElem?_cons_succ, List.set_cons_zero, List.set_cons_succ, Option.map_some, Option.map_none, if_true, if_false, Bool.false_eq_true, ite_true, ite_false, Bool.not_true, Bool.not_false, true_and, and_true, exists_eq_left, Bool.true_and, Bool.and_true, Bool.false_and, Bool.and_false, Bool.true_or, Bool.false_or, Bool.or_true, Bool.or_false])
    rw [o_addnn, op1_if]
    refine ⟨by show _ ≤ 16777216; omega, ?_⟩
    rw [o_addnn, op1_if]
    refine ⟨by simp; show _ ≤ 16777216; omega, ?_⟩
    (try simp only [wAll, frzS, wpLc, wipeS, zipS, enmS, OV.fz, reduceIte, List.getElem?_cons_zero, List.getElem?_cons_succ, List.set_cons_zero, List.set_cons_succ, Option.map_some, Option.map_none, if_true, if_false, Bool.false_eq_true, ite_true, ite_false, Bool.not_true, Bool.not_false, true_and, and_true, exists_eq_left, Bool.true_and, Bool.and_true, Bool.false_and, Bool.and_false, Bool.true_or, Bool.false_or, Bool.or_true, Bool.or_false])
    rw [← pr]
    refine bP_loop (k := k) (by omega) p1 fun t5 t6 t7 => ?_
    (try simp only [wAll, frzS, wpLc, wipeS, zipS, enmS, OV.fz, reduceIte, List.getElem?_cons_zero, List.getElem?_cons_succ, List.set_cons_zero, List.set_cons_succ, Option.map_some, Option.map_none, if_true, if_false, Bool.false_eq_true, ite_true, ite_false, Bool.not_true, Bool.not_false, true_and, and_true, exists_eq_left, Bool.true_and, Bool.and_true, Bool.false_and, Bool.and_false, Bool.true_or, Bool.false_or, Bool.or_true, Bool.or_false])
    rw [← wr]
    refine ⟨V ++ wordsR r, _, _, _, _, _, _, _, rfl, ?_, by simp; omega⟩
    · rw [List.take_succ, he, hV]
      simp
  · rintro sl S' ⟨rfl, V, a, b, c, t5, t6, t7, t8, rfl, hV, hvl⟩
    rw [List.take_length] at hV
    (try simp only [wAll, frzS, wpLc, wipeS, zipS, enmS, OV.fz, reduceIte, List.getElem?_cons_zero, List.getElem?_cons_succ, List.set_cons_zero, List.set_cons_succ, Option.map_some, Option.map_none, if_true, if_false, Bool.false_eq_true, ite_true, ite_false, Bool.not_true, Bool.not_false, true_and, and_true, exists_eq_left, Bool.true_and, Bool.and_true, Bool.false_and, Bool.and_false, Bool.true_or, Bool.false_or, Bool.or_true, Bool.or_false])
    rw [hV]
    exact h
/-- names that stay -/
theorem opd_stay {ns ns' : List Str} {d : PyData} (h : isOpd ns d = true) (hs : ∀ x, d = .str x → x ∈ ns → x ∈ ns') : isOpd ns' d = true := by
  cases d with
  | str x => exact decide_eq_true (hs x rfl (of_decide_eq_true h))
  | _ => exact h
theorem mem_wordsT {x : Str} {t e : PyData} (h : e = .str x) (he : if isTup t = true then e ∈ itms t else e = t) : x ∈ wordsT t := by
  unfold wordsT
  rw [List.mem_filterMap]
  subst h
  refine ⟨.str x, ?_, rfl⟩
  split at he
  · rename_i q; rw [if_pos q]; exact he
  · rename_i q; rw [if_neg q, he]; exact List.mem_cons_self
theorem term_stay {ns ns' : List Str} {d : PyData} (h : isTerm ns d = true) (hs : ∀ x ∈ wordsT d, x ∈ ns → x ∈ ns') : isTerm ns' d = true := by
  unfold isTerm at h ⊢
  cases ht : isTup d with
  | true =>
    rw [ht, if_pos rfl] at h
    rw [if_pos rfl]
    simp only [Bool.and_eq_true] at h ⊢
    obtain ⟨h1, h2, h3, h4⟩ := h
    have e := row3 h1
    have mem : ∀ j, (j = itm d 1 ∨ j = itm d 2) → ∀ x, j = .str x → x ∈ ns → x ∈ ns' := by
      intro j hj x hx hn
      refine hs x (mem_wordsT hx ?_) hn
      rw [if_pos ht, e]
      rcases hj with rfl | rfl <;> simp
    exact ⟨h1, h2, opd_stay h3 (mem _ (.inl rfl)), opd_stay h4 (mem _ (.inr rfl))⟩
  | false =>
    rw [ht, if_neg Bool.false_ne_true] at h
    rw [if_neg Bool.false_ne_true]
    refine opd_stay h fun x hx hn => hs x (mem_wordsT hx ?_) hn
    rw [if_neg (by rw [ht]; exact Bool.false_ne_true)]
theorem rule_stay {ns ns' : List Str} {r : PyData} (h : isRule ns r = true) (hs : ∀ x ∈ wordsR r, x ∈ ns → x ∈ ns') : isRule ns' r = true := by
  have h' := h
  unfold isRule at h ⊢
  simp only [Bool.and_eq_true] at h ⊢
  obtain ⟨h0, ⟨h1, h2⟩, ⟨h3, h4⟩, h5, h6⟩ := h
  have h3 := List.all_eq_true.mp h3
  have h4 := List.all_eq_true.mp h4
  have up : ∀ p ∈ partsR r, ∀ t ∈ itms p, ∀ x ∈ wordsT t, x ∈ ns → x ∈ ns' := fun p hp t ht x hx => hs x (List.mem_flatMap.mpr ⟨p, hp, List.mem_flatMap.mpr ⟨t, ht, hx⟩⟩)
  refine ⟨h0, ⟨h1, h2⟩, ⟨List.all_eq_true.mpr fun p hp => ?_, List.all_eq_true.mpr fun p hp => ?_⟩, h5, ?_⟩
  · have := h3 p hp
    have u := up p (by unfold partsR; exact List.mem_append_left _ (List.mem_append_left _ hp))
    unfold isCond at this ⊢
    simp only [Bool.and_eq_true] at this ⊢
    obtain ⟨q1, q2, q3, q4⟩ := this
    rw [row3 q1] at u
    have mem : ∀ j, isOpd ns j = true → (j = itm p 0 ∨ j = itm p 2) → ∀ x, j = .str x → x ∈ ns → x ∈ ns' := by
      intro j ho hj x hx hn
      refine u j (by rcases hj with rfl | rfl <;> simp) x (mem_wordsT hx ?_) hn
      rw [if_neg (by rw [opd_notup ho]; exact Bool.false_ne_true)]
    exact ⟨q1, q2, opd_stay q3 (mem _ q3 (.inl rfl)), opd_stay q4 (mem _ q4 (.inr rfl))⟩
  · have := h4 p hp
    have u := up p (by unfold partsR; exact List.mem_append_left _ (List.mem_append_right _ hp))
    unfold isSet at this ⊢
    simp only [Bool.and_eq_true] at this ⊢
    obtain ⟨q1, q2, q3⟩ := this
    rw [row2 q1] at u
    refine ⟨q1, ?_, term_stay q3 (u _ (by simp))⟩
    have u0 := u (itm p 0) (by simp)
    generalize itm p 0 = y at *
    cases y with
    | str x =>
      have q2 : (!decide (x = ("arg" : Str)) && decide (x ∈ ns)) = true := q2
      show (!decide (x = ("arg" : Str)) && decide (x ∈ ns')) = true
      rw [Bool.and_eq_true] at q2 ⊢
      exact ⟨q2.1, decide_eq_true (u0 x (mem_wordsT rfl (by rw [if_neg (by exact Bool.false_ne_true)])) (of_decide_eq_true q2.2))⟩
    | _ => cases q2
  · rw [Bool.or_eq_true] at h6 ⊢
    rcases h6 with q | q
    · exact .inl q
    · refine .inr (term_stay q ?_)
      exact up (.tuple [itm r 2]) (by unfold partsR; simp) (itm r 2) (by simp [itms])

theorem row4 {d : PyData} (h : isRow d 4 4 = true) : itms d = [itm d 0, itm d 1, itm d 2, itm d 3] := by
  obtain ⟨h1, h2, h3⟩ := isRow_tup h
  unfold itm
  match itms d, h2, h3 with
  | [a, b, c, e], _, _ => rfl
  | [], h, _ => simp at h
  | [_], h, _ => simp at h
  | [_, _], h, _ => simp at h
  | [_, _, _], h, _ => simp at h
  | _ :: _ :: _ :: _ :: _ :: r, _, h => simp at h; omega
def leafW (w : PyData) : Prop := (∃ x, w = .str x) ∨ ∃ i, w = .int i
theorem field_parts {e : PyData} (h : isField e = true) : ∃ x s d w, e = .tuple [.str x, .int s, .int d, w] ∧ isNm (.str x) = true ∧ 2 ≤ s ∧ s ≤ 4 ∧ 0 ≤ d ∧ d < s ∧ leafW w := by
  unfold isField at h
  simp only [Bool.and_eq_true] at h
  obtain ⟨h0, ⟨h1, h2⟩, h3, h4⟩ := h
  obtain ⟨i1, i2, i3⟩ := isInt_int h2
  obtain ⟨j1, j2, j3⟩ := isInt_int h3
  have e0 := (isRow_tup h0).1
  rw [row4 h0] at e0
  have n1 := isNm_str h1
  refine ⟨strOf (itm e 0), intOf (itm e 1), intOf (itm e 2), itm e 3, by rw [← n1, ← i1, ← j1]; exact e0, by rw [← n1]; exact h1, i2, i3, j2, by omega, ?_⟩
  rw [Bool.or_eq_true] at h4
  rcases h4 with q | q
  · cases e3 : itm e 3 with
    | str x => exact .inl ⟨x, rfl⟩
    | _ => rw [e3] at q; cases q
  · exact .inr ⟨_, (isInt_int q).1⟩
theorem foldl_mul (a : Int) : ∀ l : List Int, l.foldl (· * ·) a = a * l.foldl (· * ·) 1
  | [] => by simp
  | b :: l => by
    rw [List.foldl_cons, List.foldl_cons, foldl_mul (a * b) l, foldl_mul (1 * b) l, Int.one_mul, Int.mul_assoc]
theorem prodL_cons (e : PyData) (l : List PyData) : prodL (e :: l) = intOf (itm e 1) * prodL l := by
  unfold prodL
  rw [List.map_cons, List.foldl_cons, foldl_mul, Int.one_mul]
theorem prodL_pos {l : List PyData} (h : ∀ e ∈ l, 1 ≤ intOf (itm e 1)) : 1 ≤ prodL l := by
  induction l with
  | nil => decide
  | cons e l ih =>
    rw [prodL_cons]
    have h1 := h e List.mem_cons_self
    have h2 := ih fun x hx => h x (List.mem_cons_of_mem _ hx)
    have := Int.mul_le_mul h1 h2 (by decide) (by omega)
    omega
theorem prodL_sub {l m : List PyData} (s : l.Sublist m) (h : ∀ e ∈ m, 1 ≤ intOf (itm e 1)) : prodL l ≤ prodL m := by
  induction s with
  | slnil => exact Int.le_refl _
  | cons e s ih =>
    rw [prodL_cons]
    have h1 := h e List.mem_cons_self
    have ih := ih fun x hx => h x (List.mem_cons_of_mem _ hx)
    have h3 := prodL_pos fun x hx => h x (List.mem_cons_of_mem e (s.mem hx))
    have := Int.mul_le_mul h1 ih (by omega) (by omega)
    omega
  | cons_cons e s ih =>
    rw [prodL_cons, prodL_cons]
    have h1 := h e List.mem_cons_self
    exact Int.mul_le_mul_of_nonneg_left (ih fun x hx => h x (List.mem_cons_of_mem _ hx)) (by omega)
theorem leafW_depth {w : PyData} (h : leafW w) : PyData.depth w = 0 := by
  rcases h with ⟨x, rfl⟩ | ⟨i, rfl⟩ <;> simp [PyData.depth]
theorem field_depth {x : Str} {s d : Int} {w : PyData} (h : leafW w) : PyData.depth (.tuple [.str x, .int s, .int d, w]) ≤ 64 := by
  have := leafW_depth h
  simp only [PyData.depth, PyData.depthAll]
  omega
/-- the same name -/
theorem eqv_fst {x y : Str} {r t : List PyData} (h : dIs (.tuple (.str y :: r)) (.tuple (.str x :: t)) = true) : y = x := by
  have h : PyData.eqvAll (.str y :: r) (.str x :: t) = true := by
    have : PyData.eqv (.tuple (.str y :: r)) (.tuple (.str x :: t)) = PyData.eqvAll (.str y :: r) (.str x :: t) := by rw [PyData.eqv]
    rw [← this]; exact h
  rw [PyData.eqvAll, Bool.and_eq_true] at h
  have h1 : PyData.eqv (.str y) (.str x) = (y == x) := by rw [PyData.eqv]
  rw [h1] at h
  exact eq_of_beq h.1
/-- asks within others -/
def below (qs' qs : List PyData) : Prop := (fsts qs').Sublist (fsts qs) ∧ ∀ q' ∈ qs', ∃ q ∈ qs, itm q 0 = itm q' 0 ∧ intOf (itm q' 1) ≤ intOf (itm q 1)
theorem ask_parts {ns : List Str} {e : PyData} (h : isAsk ns e = true) : ∃ x c rs, e = .tuple [.str x, .int c, .tuple rs] ∧ isNm (.str x) = true ∧ 1 ≤ c ∧ c ≤ 3 ∧ rs.length ≤ 4 ∧ rs.all (isRule (ns ++ [("arg" : Str)])) = true := by
  unfold isAsk at h
  simp only [Bool.and_eq_true] at h
  obtain ⟨h0, ⟨h1, h2⟩, h3, h4⟩ := h
  obtain ⟨i1, i2, i3⟩ := isInt_int h2
  have e0 := (isRow_tup h0).1
  rw [row3 h0] at e0
  have n1 := isNm_str h1
  obtain ⟨t1, t2, t3⟩ := isRow_tup h3
  refine ⟨strOf (itm e 0), intOf (itm e 1), itms (itm e 2), by rw [← n1, ← i1, ← t1]; exact e0, by rw [← n1]; exact h1, i2, i3, by omega, h4⟩

theorem ed_parts {fs qs sw : List PyData} {m : PyData} (h : isEd (.tuple [.tuple fs, m, .tuple qs, .tuple sw]) = true) : areFields (.tuple fs) = true ∧ isManner m = true ∧ qs.all (isAsk (fsts fs)) = true ∧ 1 ≤ qs.length ∧ qs.length ≤ 4 ∧ asc (fsts qs) = true ∧ isSweep (fsts fs) (.tuple sw) = true := by
  have h : (isRow (.tuple [.tuple fs, m, .tuple qs, .tuple sw]) 4 4 && ((areFields (.tuple fs) && isManner m) && ((isRow (.tuple qs) 1 4 && qs.all (isAsk (fsts fs))) && (asc (fsts qs) && isSweep (fsts fs) (.tuple sw))))) = true := h
  simp only [Bool.and_eq_true] at h
  obtain ⟨_, ⟨h1, h2⟩, ⟨h3, h4⟩, h5, h6⟩ := h
  obtain ⟨_, q1, q2⟩ := isRow_tup h3
  have e : itms (.tuple qs) = qs := rfl
  rw [e] at q1 q2
  exact ⟨h1, h2, h4, by omega, by omega, h5, h6⟩
theorem fields_parts {fs : List PyData} (h : areFields (.tuple fs) = true) : 1 ≤ fs.length ∧ fs.length ≤ 3 ∧ (∀ e ∈ fs, isField e = true) ∧ asc (fsts fs) = true ∧ prodL fs ≤ 24 := by
  have h : (isRow (.tuple fs) 1 3 && (fs.all isField && (asc (fsts fs) && decide (prodL fs ≤ 24)))) = true := h
  simp only [Bool.and_eq_true] at h
  obtain ⟨h1, h2, h3, h4⟩ := h
  obtain ⟨_, q1, q2⟩ := isRow_tup h1
  have e : itms (.tuple fs) = fs := rfl
  rw [e] at q1 q2
  exact ⟨by omega, by omega, List.all_eq_true.mp h2, h3, of_decide_eq_true h4⟩
theorem fields_mk {fs : List PyData} (h1 : 1 ≤ fs.length) (h2 : fs.length ≤ 3) (h3 : fs.all isField = true) (h4 : asc (fsts fs) = true) (h5 : prodL fs ≤ 24) : areFields (.tuple fs) = true := by
  show (isRow (.tuple fs) 1 3 && (fs.all isField && (asc (fsts fs) && decide (prodL fs ≤ 24)))) = true
  rw [h3, h4, decide_eq_true h5]
  simp [isRow]
  omega
theorem fsts_app (a b : List PyData) : fsts (a ++ b) = fsts a ++ fsts b := List.map_append
theorem fsts_take (a : List PyData) (i : Nat) : fsts (a.take i) = (fsts a).take i := List.map_take
theorem field_size1 {e : PyData} (h : isField e = true) : 1 ≤ intOf (itm e 1) := by
  obtain ⟨x, s, d, w, rfl, _, h2, _⟩ := field_parts h
  show 1 ≤ s
  omega
def bF : Sms := .cons (.asg (.nm 9) (.call 20 (.cons (.var 0) (.cons (.lst (.cons (.var 6) (.cons (.var 6) (.cons (.var 6) (.cons (.int 2) .nil))))) .nil)))) (.cons (.asg (.nm 7) (.ite (.cop .lt (.var 7) (.var 9)) (.var 7) (.int 0))) (.cons (.asg (.nm 8) (.call 20 (.cons (.var 0) (.cons (.lst (.cons (.str "refuse") (.cons (.str "refuse") (.cons (.call 19 (.cons (.var 0) (.cons (.var 9) .nil))) .nil)))) .nil)))) (.cons (.asg (.nm 4) (.bop .add (.var 4) (.tup (.cons (.tup (.cons (.var 5) (.cons (.var 9) (.cons (.var 7) (.cons (.var 8) .nil))))) .nil)))) (.cons (.frz 4) .nil))))
/-- the elder's fields -/
theorem bF_loop {k r : Nat} {K : List PyData} {b c s3 s5 s6 s7 s8 s9 s10 s11 s12 s13 s14 s15 : Option SV} {S : Store} {R : Out → Prop} (hb : Bag S r) (hK : ∀ e ∈ K, isField e = true) (hl : K.length ≤ 3)
    (h : ∀ fs S' s5 s6 s7 s8 s9, Bag S' r → fs.length = K.length → fs.all isField = true → fsts fs = fsts K → prodL fs ≤ prodL K → R (.nx [some (.cell r), b, c, s3, some (.val (.tuple fs)), s5, s6, s7, s8, s9, s10, s11, s12, s13, s14, s15] S')) :
    op1 (forGo (forB (Ek (k + 2)) (.tp [5, 6, 7, 8]) bF) K [some (.cell r), b, c, s3, some (.val (.tuple [])), s5, s6, s7, s8, s9, s10, s11, s12, s13, s14, s15] S) R := by
  refine forGo_inv (fun i sl S => Bag S r ∧ ∃ fs s5 s6 s7 s8 s9, sl = [some (.cell r), b, c, s3, some (.val (.tuple fs)), s5, s6, s7, s8, s9, s10, s11, s12, s13, s14, s15] ∧ fs.length = i ∧ fs.all isField = true ∧ fsts fs = (fsts K).take i ∧ prodL fs ≤ prodL (K.take i) ∧ 1 ≤ prodL fs) ?_ ?_ ?_
  · exact ⟨hb, [], _, _, _, _, _, rfl, rfl, rfl, rfl, Int.le_refl _, by decide⟩
  · rintro i e sl S1 he ⟨hb1, fs, s5, s6, s7, s8, s9, rfl, hfl, hfa, hfn, hfp, hf1⟩
    have hi := (List.getElem?_eq_some_iff.mp he).1
    have hem := hK e (List.mem_of_getElem? he)
    obtain ⟨x, s, d, w, rfl, hx, h2, h4, hd0, hd1, hw⟩ := field_parts hem
    rw [s_forB]
    generalize hT : (.cons (.asg (.nm 8) (.call 20 (.cons (.var 0) (.cons (.lst (.cons (.str "refuse") (.cons (.str "refuse") (.cons (.call 19 (.cons (.var 0) (.cons (.var 9) .nil))) .nil)))) .nil)))) (.cons (.asg (.nm 4) (.bop .add (.var 4) (.tup (.cons (.tup (.cons (.var 5) (.cons (.var 9) (.cons (.var 7) (.cons (.var 8) .nil))))) .nil)))) (.cons (.frz 4) .nil)) : Sms) = T
    unfold bF
    rw [hT]
    (try simp only [wAll, frzS, wpLc, wipeS, zipS, enmS, OV.fz, reduceIte, List.getElem?_cons_zero, List.getElem?_cons_succ, List.set_cons_zero, List.set_cons_succ, Option.map_some, Option.map_none, if_true, if_false, Bool.false_eq_true, ite_true, ite_false, Bool.not_true, Bool.not_false, true_and, and_true, exists_eq_left, Bool.true_and, Bool.and_true, Bool.false_and, Bool.and_false, Bool.true_or, Bool.false_or, Bool.or_true, Bool.or_false])
    refine b20 hb1 (by simp) (by simp) fun v hv S2 hb2 => ?_
    obtain ⟨f, rfl, hf2, hf3⟩ : ∃ f : Int, v = .int f ∧ 2 ≤ f ∧ f ≤ s := by
      simp only [List.mem_cons, List.not_mem_nil, or_false] at hv
      rcases hv with rfl | rfl | rfl | rfl
      · exact ⟨_, rfl, h2, by omega⟩
      · exact ⟨_, rfl, h2, by omega⟩
      · exact ⟨_, rfl, h2, by omega⟩
      · exact ⟨_, rfl, by decide, h2⟩
    have key : ∀ d' : Int, 0 ≤ d' → d' < f → op1 (exSs (Ek (k + 2)) [some (.cell r), b, c, s3, some (.val (.tuple fs)), some (.val (.str x)), some (.val (.int s)), some (.val (.int d')), some (.val w), some (.val (.int f)), s10, s11, s12, s13, s14, s15] S2 T) (loopQ (fun sl S => Bag S r ∧ ∃ fs s5 s6 s7 s8 s9, sl = [some (.cell r), b, c, s3, some (.val (.tuple fs)), s5, s6, s7, s8, s9, s10, s11, s12, s13, s14, s15] ∧ fs.length = i + 1 ∧ fs.all isField = true ∧ fsts fs = (fsts K).take (i + 1) ∧ prodL fs ≤ prodL (K.take (i + 1)) ∧ 1 ≤ prodL fs) R) := by
      intro d' q0 q1
      rw [← hT]
      (try simp only [wAll, frzS, wpLc, wipeS, zipS, enmS, OV.fz, reduceIte, List.getElem?_cons_zero, List.getElem?_cons_succ, List.set_cons_zero, List.set_cons_succ, Option.map_some, Option.map_none, if_true, if_false, Bool.false_eq_true, ite_true, ite_false, Bool.not_true, Bool.not_false, true_and, and_true, exists_eq_left, Bool.true_and, Bool.and_true, Bool.false_and, Bool.and_false, Bool.true_or, Bool.false_or, Bool.or_true, Bool.or_false])
      refine b19 hb2 (by omega) (by omega) fun z S3 hb3 hz0 hz1 => ?_
      (try simp only [wAll, frzS, wpLc, wipeS, zipS, enmS, OV.fz, reduceIte, List.getElem?_cons_zero, List.getElem?_cons_succ, List.set_cons_zero, List.set_cons_succ, Option.map_some, Option.map_none, if_true, if_false, Bool.false_eq_true, ite_true, ite_false, Bool.not_true, Bool.not_false, true_and, and_true, exists_eq_left, Bool.true_and, Bool.and_true, Bool.false_and, Bool.and_false, Bool.true_or, Bool.false_or, Bool.or_true, Bool.or_false])
      refine b20 hb3 (by simp) (by simp) fun w' hw' S4 hb4 => ?_
      have hwk : isRefuse w' = true ∨ isInt w' 0 (f - 1) = true := by
        simp only [List.mem_cons, List.not_mem_nil, or_false] at hw'
        rcases hw' with rfl | rfl | rfl
        · exact .inl rfl
        · exact .inl rfl
        · right; simp [isInt]; omega
      (try simp only [wAll, frzS, wpLc, wipeS, zipS, enmS, OV.fz, reduceIte, List.getElem?_cons_zero, List.getElem?_cons_succ, List.set_cons_zero, List.set_cons_succ, Option.map_some, Option.map_none, if_true, if_false, Bool.false_eq_true, ite_true, ite_false, Bool.not_true, Bool.not_false, true_and, and_true, exists_eq_left, Bool.true_and, Bool.and_true, Bool.false_and, Bool.and_false, Bool.true_or, Bool.false_or, Bool.or_true, Bool.or_false])
      have hfld := field_ok hx hf2 (by omega) q0 q1 hwk
      have hpe : prodL (fs ++ [.tuple [.str x, .int f, .int d', w']]) = prodL fs * f := prodL_app _ _
      have hpK : prodL (K.take (i + 1)) = prodL (K.take i) * s := by rw [prodL_take he]; rfl
      refine ⟨by simp [hfl]; show _ ≤ 16777216; omega, hb4, fs ++ [.tuple [.str x, .int f, .int d', w']], _, _, _, _, _, rfl, by simp [hfl], ?_, ?_, ?_, ?_⟩
      · rw [List.all_append, hfa]
        simp [hfld]
      · rw [fsts_app, hfn, List.take_succ]
        have : (fsts K)[i]? = some x := by
          unfold fsts
          rw [List.getElem?_map, he]
          rfl
        rw [this]
        rfl
      · rw [hpe, hpK]
        exact Int.mul_le_mul hfp hf3 (by omega) (by omega)
      · rw [hpe]
        have := Int.mul_le_mul hf1 hf2 (by decide) (by omega)
        omega
    (try simp only [wAll, frzS, wpLc, wipeS, zipS, enmS, OV.fz, reduceIte, List.getElem?_cons_zero, List.getElem?_cons_succ, List.set_cons_zero, List.set_cons_succ, Option.map_some, Option.map_none, if_true, if_false, Bool.false_eq_true, ite_true, ite_false, Bool.not_true, Bool.not_false, true_and, and_true, exists_eq_left, Bool.true_and, Bool.and_true, Bool.false_and, Bool.and_false, Bool.true_or, Bool.false_or, Bool.or_true, Bool.or_false])
    by_cases hdf : d < f
    · simp only [hdf, decide_true]
      (try simp only [wAll, frzS, wpLc, wipeS, zipS, enmS, OV.fz, reduceIte, List.getElem?_cons_zero, List.getElem?_cons_succ, List.set_cons_zero, List.set_cons_succ, Option.map_some, Option.map_none, if_true, if_false, Bool.false_eq_true, ite_true, ite_false, Bool.not_true, Bool.not_false, true_and, and_true, exists_eq_left, Bool.true_and, Bool.and_true, Bool.false_and, Bool.and_false, Bool.true_or, Bool.false_or, Bool.or_true, Bool.or_false])
      exact key d hd0 hdf
    · simp only [hdf, decide_false]
      (try simp only [wAll, frzS, wpLc, wipeS, zipS, enmS, OV.fz, reduceIte, List.getElem?_cons_zero, List.getElem?_cons_succ, List.set_cons_zero, List.set_cons_succ, Option.map_some, Option.map_none, if_true, if_false, Bool.false_eq_true, ite_true, ite_false, Bool.not_true, Bool.not_false, true_and, and_true, exists_eq_left, Bool.true_and, Bool.and_true, Bool.false_and, Bool.and_false, Bool.true_or, Bool.false_or, Bool.or_true, Bool.or_false])
      exact key 0 (by decide) (by omega)
  · rintro sl S1 ⟨hb1, fs, s5, s6, s7, s8, s9, rfl, hfl, hfa, hfn, hfp, hf1⟩
    rw [List.take_length] at hfp
    rw [List.take_of_length_le (by simp [fsts])] at hfn
    exact h fs S1 _ _ _ _ _ hb1 hfl hfa hfn hfp

theorem sub_all {α : Type} {p : α → Prop} {l m : List α} (s : l.Sublist m) (h : ∀ x ∈ m, p x) : ∀ x ∈ l, p x := fun x hx => h x (s.mem hx)
/-- the words that are gone do not stand in these rules: then they are rules of what is left -/
theorem rules_left {ns ns' G : List Str} {rs : List PyData} (h : rs.all (isRule (ns ++ [("arg" : Str)])) = true) (hG : ∀ x ∈ ns, x ∉ G → x ∈ ns') (hw : ∀ x ∈ wordsA rs, x ∉ G) : rs.all (isRule (ns' ++ [("arg" : Str)])) = true := by
  rw [List.all_eq_true] at *
  intro r hr
  refine rule_stay (h r hr) fun x hx hn => ?_
  rcases List.mem_append.mp hn with q | q
  · exact List.mem_append_left _ (hG x q (hw x (List.mem_flatMap.mpr ⟨r, hr, hx⟩)))
  · exact List.mem_append_right _ q
theorem rules_leftS {ns ns' G : List Str} {rs : List PyData} (h : rs.all (isRule ns) = true) (hG : ∀ x ∈ ns, x ∉ G → x ∈ ns') (hw : ∀ x ∈ wordsA rs, x ∉ G) : rs.all (isRule ns') = true := by
  rw [List.all_eq_true] at *
  intro r hr
  exact rule_stay (h r hr) fun x hx hn => hG x hn (hw x (List.mem_flatMap.mpr ⟨r, hr, hx⟩))
theorem none_in {W G : List Str} : (((W.map PyData.str).filter fun d => !(match d with | .str x => !decide (x ∈ G) | _ => true)).isEmpty = true) ↔ ∀ x ∈ W, x ∉ G := by
  rw [List.isEmpty_iff, List.filter_eq_nil_iff]
  constructor
  · intro h x hx
    have := h (.str x) (List.mem_map.mpr ⟨x, hx, rfl⟩)
    simpa using this
  · rintro h d hd
    obtain ⟨x, hx, rfl⟩ := List.mem_map.mp hd
    simpa using h x hx
theorem lc_gone {E : Ev} {sl : Slots} {W G : List Str} {i j : Nat} {S : Store} {Q : List PyData → Store → Prop} (hi : i < sl.length) (hij : i ≠ j) (hj : sl[j]? = some (some (.val (.list (G.map .str))))) :
    WP (lcGo (lcS E sl (.var i) (.nm i) (.yes (.cop .isin (.var i) (.var j))) [i]) (W.map .str) S) Q ↔ Q ((W.map PyData.str).filter fun d => !(match d with | .str x => !decide (x ∈ G) | _ => true)) S := by
  refine lc_filter (fun d => match d with | .str x => !decide (x ∈ G) | _ => true) fun d hd => ?_
  obtain ⟨x, hx, rfl⟩ := List.mem_map.mp hd
  unfold wpLc wipeS wipeS
  (try simp only [wAll, wpLc, wipeS, zipS, enmS, OV.fz, reduceIte, List.getElem?_cons_zero, List.getElem?_cons_succ, List.set_cons_zero, List.set_cons_succ, Option.map_some, Option.map_none, if_true, if_false, Bool.false_eq_true, ite_true, ite_false, Bool.not_true, Bool.not_false, true_and, and_true, exists_eq_left, Bool.true_and, Bool.and_true, Bool.false_and, Bool.and_false, Bool.true_or, Bool.false_or, Bool.or_true, Bool.or_false])
  rw [List.set_set, List.getElem?_set_self (by simpa using hi)]
  (try simp only [wAll, wpLc, wipeS, zipS, enmS, OV.fz, reduceIte, List.getElem?_cons_zero, List.getElem?_cons_succ, List.set_cons_zero, List.set_cons_succ, Option.map_some, Option.map_none, if_true, if_false, Bool.false_eq_true, ite_true, ite_false, Bool.not_true, Bool.not_false, true_and, and_true, exists_eq_left, Bool.true_and, Bool.and_true, Bool.false_and, Bool.and_false, Bool.true_or, Bool.false_or, Bool.or_true, Bool.or_false])
  rw [List.getElem?_set_ne hij, hj]
  (try simp only [wAll, wpLc, wipeS, zipS, enmS, OV.fz, reduceIte, List.getElem?_cons_zero, List.getElem?_cons_succ, List.set_cons_zero, List.set_cons_succ, Option.map_some, Option.map_none, if_true, if_false, Bool.false_eq_true, ite_true, ite_false, Bool.not_true, Bool.not_false, true_and, and_true, exists_eq_left, Bool.true_and, Bool.and_true, Bool.false_and, Bool.and_false, Bool.true_or, Bool.false_or, Bool.or_true, Bool.or_false])
  by_cases hxG : x ∈ G <;> simp [hxG]
theorem b30 {k r : Nat} {fs qs sw : List PyData} {m : PyData} {S : Store} {Q : SV → Store → Prop} (hb : Bag S r) (he : isEd (.tuple [.tuple fs, m, .tuple qs, .tuple sw]) = true)
    (h : ∀ fs' m' qs' sw' S', Bag S' r → isEd (.tuple [.tuple fs', m', .tuple qs', .tuple sw']) = true → (fsts fs').Sublist (fsts fs) → below qs' qs → Q (.val (.tuple [.tuple fs', m', .tuple qs', .tuple sw'])) S') :
    WP (C (k + 3) 30 [.cell r, .val (.tuple [.tuple fs, m, .tuple qs, .tuple sw])] S) Q := by
  obtain ⟨hf, hm, hq, hq1, hq4, hqa, hsw⟩ := ed_parts he
  obtain ⟨f1, f3, fa, fasc, fp⟩ := fields_parts hf
  have at0 : ∀ (a b c d : PyData), atI [a, b, c, d] 0 = some a := fun a b c d => rfl
  have at2 : ∀ (a b c d : PyData), atI [a, b, c, d] 2 = some c := fun a b c d => rfl
  have at3 : ∀ (a b c d : PyData), atI [a, b, c, d] 3 = some d := fun a b c d => rfl
  rw [u30]
  generalize hT : (Sms.cons (.asg (.nm 4) (.tup .nil)) _) = T
  (try simp only [wAll, frzS, wpLc, wipeS, zipS, enmS, OV.fz, reduceIte, List.getElem?_cons_zero, List.getElem?_cons_succ, List.set_cons_zero, List.set_cons_succ, Option.map_some, Option.map_none, if_true, if_false, Bool.false_eq_true, ite_true, ite_false, Bool.not_true, Bool.not_false, true_and, and_true, exists_eq_left, Bool.true_and, Bool.and_true, Bool.false_and, Bool.and_false, Bool.true_or, Bool.false_or, Bool.or_true, Bool.or_false])
  rw [at0]
  (try simp only [wAll, frzS, wpLc, wipeS, zipS, enmS, OV.fz, reduceIte, List.getElem?_cons_zero, List.getElem?_cons_succ, List.set_cons_zero, List.set_cons_succ, Option.map_some, Option.map_none, if_true, if_false, Bool.false_eq_true, ite_true, ite_false, Bool.not_true, Bool.not_false, true_and, and_true, exists_eq_left, Bool.true_and, Bool.and_true, Bool.false_and, Bool.and_false, Bool.true_or, Bool.false_or, Bool.or_true, Bool.or_false])
  refine lc_inv (fun i ys S => Bag S r ∧ ys.Sublist (fs.take i)) ⟨hb, List.nil_sublist _⟩ ?_ ?_
  · rintro i e ys S1 hei ⟨hb1, hs⟩
    (try simp only [wAll, frzS, wpLc, wipeS, zipS, enmS, OV.fz, reduceIte, List.getElem?_cons_zero, List.getElem?_cons_succ, List.set_cons_zero, List.set_cons_succ, Option.map_some, Option.map_none, if_true, if_false, Bool.false_eq_true, ite_true, ite_false, Bool.not_true, Bool.not_false, true_and, and_true, exists_eq_left, Bool.true_and, Bool.and_true, Bool.false_and, Bool.and_false, Bool.true_or, Bool.false_or, Bool.or_true, Bool.or_false])
    refine b19 hb1 (by decide) (by decide) fun z S2 hb2 _ _ => ?_
    (try simp only [wAll, frzS, wpLc, wipeS, zipS, enmS, OV.fz, reduceIte, List.getElem?_cons_zero, List.getElem?_cons_succ, List.set_cons_zero, List.set_cons_succ, Option.map_some, Option.map_none, if_true, if_false, Bool.false_eq_true, ite_true, ite_false, Bool.not_true, Bool.not_false, true_and, and_true, exists_eq_left, Bool.true_and, Bool.and_true, Bool.false_and, Bool.and_false, Bool.true_or, Bool.false_or, Bool.or_true, Bool.or_false])
    have tk : fs.take (i + 1) = fs.take i ++ [e] := by rw [List.take_succ, hei]; rfl
    split
    · exact ⟨hb2, by rw [tk]; exact List.Sublist.append hs (List.Sublist.refl _)⟩
    · exact ⟨hb2, by rw [tk]; exact hs.trans (List.sublist_append_left _ _)⟩
  · rintro K0 S1 ⟨hb1, hs⟩
    rw [List.take_length] at hs
    have key : ∀ K : List PyData, K.Sublist fs → K ≠ [] → op1 (exSs (Ek (k + 2)) [some (.cell r), some (.val (.tuple [.tuple fs, m, .tuple qs, .tuple sw])), some (.val (.list K)), none, none, none, none, none, none, none, none, none, none, none, none, none] S1 T) (retO Q) := by
      intro K hKs hKn
      have hKf : ∀ e ∈ K, isField e = true := sub_all hKs fa
      have hKl : K.length ≤ 3 := Nat.le_trans hKs.length_le f3
      have hK1 : 1 ≤ K.length := List.length_pos_iff.mpr hKn
      rw [← hT]
      generalize hT2 : (Sms.cons (.ife (.cop .eq (.var 11) (.tup .nil)) _ _) _) = T2
      (try simp only [wAll, frzS, wpLc, wipeS, zipS, enmS, OV.fz, reduceIte, List.getElem?_cons_zero, List.getElem?_cons_succ, List.set_cons_zero, List.set_cons_succ, Option.map_some, Option.map_none, if_true, if_false, Bool.false_eq_true, ite_true, ite_false, Bool.not_true, Bool.not_false, true_and, and_true, exists_eq_left, Bool.true_and, Bool.and_true, Bool.false_and, Bool.and_false, Bool.true_or, Bool.false_or, Bool.or_true, Bool.or_false])
      refine bF_loop hb1 hKf hKl fun fs' S2 t5 t6 t7 t8 t9 hb2 hl' ha' hn' hp' => ?_
      have hasc' : asc (fsts fs') = true := by rw [hn']; exact asc_sub fasc (hKs.map _)
      have hfp' : prodL fs' ≤ 24 := Int.le_trans hp' (Int.le_trans (prodL_sub hKs fun e he => field_size1 (fa e he)) fp)
      have hF' : areFields (.tuple fs') = true := fields_mk (by omega) (by omega) ha' hasc' hfp'
      have hsub' : (fsts fs').Sublist (fsts fs) := by rw [hn']; exact hKs.map _
      obtain ⟨G, hG, hGs⟩ : ∃ G : List Str, fs.filterMap (fun e => if (K.any fun z => dIs z e) = true then none else some (PyData.str (strOf (itm e 0)))) = G.map .str ∧ ∀ x ∈ fsts fs, x ∉ G → x ∈ fsts fs' := by
        refine ⟨fs.filterMap (fun e => if (K.any fun z => dIs z e) = true then none else some (strOf (itm e 0))), ?_, ?_⟩
        · rw [List.map_filterMap]
          congr 1
          funext e
          cases K.any fun z => dIs z e <;> rfl
        · intro x hx hnx
          obtain ⟨e, heM, rfl⟩ := List.mem_map.mp hx
          cases hc : K.any fun z => dIs z e with
          | false => exact absurd (List.mem_filterMap.mpr ⟨e, heM, by rw [hc]; rfl⟩) hnx
          | true =>
            obtain ⟨z, hz, hze⟩ := List.any_eq_true.mp hc
            obtain ⟨x1, _, _, _, rfl, _⟩ := field_parts (fa e heM)
            obtain ⟨x2, _, _, _, rfl, _⟩ := field_parts (hKf z hz)
            have := eqv_fst hze
            rw [hn']
            exact List.mem_map.mpr ⟨_, hz, this⟩
      (try simp only [wAll, frzS, wpLc, wipeS, zipS, enmS, OV.fz, reduceIte, List.getElem?_cons_zero, List.getElem?_cons_succ, List.set_cons_zero, List.set_cons_succ, Option.map_some, Option.map_none, if_true, if_false, Bool.false_eq_true, ite_true, ite_false, Bool.not_true, Bool.not_false, true_and, and_true, exists_eq_left, Bool.true_and, Bool.and_true, Bool.false_and, Bool.and_false, Bool.true_or, Bool.false_or, Bool.or_true, Bool.or_false])
      rw [at0]
      (try simp only [wAll, frzS, wpLc, wipeS, zipS, enmS, OV.fz, reduceIte, List.getElem?_cons_zero, List.getElem?_cons_succ, List.set_cons_zero, List.set_cons_succ, Option.map_some, Option.map_none, if_true, if_false, Bool.false_eq_true, ite_true, ite_false, Bool.not_true, Bool.not_false, true_and, and_true, exists_eq_left, Bool.true_and, Bool.and_true, Bool.false_and, Bool.and_false, Bool.true_or, Bool.false_or, Bool.or_true, Bool.or_false])
      rw [lc_pure (fun e => if (K.any fun z => dIs z e) = true then none else some (PyData.str (strOf (itm e 0)))) fun e heM => by
        obtain ⟨x, s, d, w, rfl, _, _, _, _, _, hw⟩ := field_parts (fa e heM)
        (try simp only [wAll, frzS, wpLc, wipeS, zipS, enmS, OV.fz, reduceIte, List.getElem?_cons_zero, List.getElem?_cons_succ, List.set_cons_zero, List.set_cons_succ, Option.map_some, Option.map_none, if_true, if_false, Bool.false_eq_true, ite_true, ite_false, Bool.not_true, Bool.not_false, true_and, and_true, exists_eq_left, Bool.true_and, Bool.and_true, Bool.false_and, Bool.and_false, Bool.true_or, Bool.false_or, Bool.or_true, Bool.or_false])
        rw [o_notintl (field_depth hw)]
        (try simp only [wAll, frzS, wpLc, wipeS, zipS, enmS, OV.fz, reduceIte, List.getElem?_cons_zero, List.getElem?_cons_succ, List.set_cons_zero, List.set_cons_succ, Option.map_some, Option.map_none, if_true, if_false, Bool.false_eq_true, ite_true, ite_false, Bool.not_true, Bool.not_false, true_and, and_true, exists_eq_left, Bool.true_and, Bool.and_true, Bool.false_and, Bool.and_false, Bool.true_or, Bool.false_or, Bool.or_true, Bool.or_false])
        rw [atI_get (i := 0) (j := 0) rfl (by simp)]
        cases K.any fun z => dIs z (.tuple [.str x, .int s, .int d, w]) <;> simp [itm, itms, strOf, op1_some], hG]
      (try simp only [wAll, frzS, wpLc, wipeS, zipS, enmS, OV.fz, reduceIte, List.getElem?_cons_zero, List.getElem?_cons_succ, List.set_cons_zero, List.set_cons_succ, Option.map_some, Option.map_none, if_true, if_false, Bool.false_eq_true, ite_true, ite_false, Bool.not_true, Bool.not_false, true_and, and_true, exists_eq_left, Bool.true_and, Bool.and_true, Bool.false_and, Bool.and_false, Bool.true_or, Bool.false_or, Bool.or_true, Bool.or_false])
      rw [at2]
      (try simp only [wAll, frzS, wpLc, wipeS, zipS, enmS, OV.fz, reduceIte, List.getElem?_cons_zero, List.getElem?_cons_succ, List.set_cons_zero, List.set_cons_succ, Option.map_some, Option.map_none, if_true, if_false, Bool.false_eq_true, ite_true, ite_false, Bool.not_true, Bool.not_false, true_and, and_true, exists_eq_left, Bool.true_and, Bool.and_true, Bool.false_and, Bool.and_false, Bool.true_or, Bool.false_or, Bool.or_true, Bool.or_false])
      refine forGo_inv (fun i sl S => Bag S r ∧ ∃ as t5 t12 t13, sl = [some (.cell r), some (.val (.tuple [.tuple fs, m, .tuple qs, .tuple sw])), some (.val (.list K)), none, some (.val (.tuple fs')), t5, t6, t7, t8, t9, some (.val (.list (G.map .str))), some (.val (.tuple as)), t12, t13, none, none] ∧ as.length ≤ i ∧ as.all (isAsk (fsts fs')) = true ∧ (fsts as).Sublist ((fsts qs).take i) ∧ ∀ q' ∈ as, ∃ q ∈ qs, itm q 0 = itm q' 0 ∧ intOf (itm q' 1) ≤ intOf (itm q 1)) ?_ ?_ ?_
      · exact ⟨hb2, [], _, _, _, rfl, by simp, rfl, List.nil_sublist _, fun _ h => absurd h (by simp)⟩
      · rintro i e sl S3 hei ⟨hb3, as, t5, t12, t13, rfl, hal, haa, has, hab⟩
        have hi := (List.getElem?_eq_some_iff.mp hei).1
        have heM := List.mem_of_getElem? hei
        obtain ⟨x, c, rs, rfl, hx, hc1, hc3, hrl, hra⟩ := ask_parts (List.all_eq_true.mp hq e heM)
        have hqi : (fsts qs)[i]? = some x := by unfold fsts; rw [List.getElem?_map, hei]; rfl
        have hsu : (fsts as).Sublist ((fsts qs).take (i + 1)) := has.trans (List.take_sublist_take_left (by omega))
        rw [s_forB]
        (try simp only [wAll, frzS, wpLc, wipeS, zipS, enmS, OV.fz, reduceIte, List.getElem?_cons_zero, List.getElem?_cons_succ, List.set_cons_zero, List.set_cons_succ, Option.map_some, Option.map_none, if_true, if_false, Bool.false_eq_true, ite_true, ite_false, Bool.not_true, Bool.not_false, true_and, and_true, exists_eq_left, Bool.true_and, Bool.and_true, Bool.false_and, Bool.and_false, Bool.true_or, Bool.false_or, Bool.or_true, Bool.or_false])
        refine b29 (k := k + 1) hra (by omega) ?_
        (try simp only [wAll, frzS, wpLc, wipeS, zipS, enmS, OV.fz, reduceIte, List.getElem?_cons_zero, List.getElem?_cons_succ, List.set_cons_zero, List.set_cons_succ, Option.map_some, Option.map_none, if_true, if_false, Bool.false_eq_true, ite_true, ite_false, Bool.not_true, Bool.not_false, true_and, and_true, exists_eq_left, Bool.true_and, Bool.and_true, Bool.false_and, Bool.and_false, Bool.true_or, Bool.false_or, Bool.or_true, Bool.or_false])
        rw [lc_gone (G := G) (by simp) (by decide) rfl]
        (try simp only [wAll, frzS, wpLc, wipeS, zipS, enmS, OV.fz, reduceIte, List.getElem?_cons_zero, List.getElem?_cons_succ, List.set_cons_zero, List.set_cons_succ, Option.map_some, Option.map_none, if_true, if_false, Bool.false_eq_true, ite_true, ite_false, Bool.not_true, Bool.not_false, true_and, and_true, exists_eq_left, Bool.true_and, Bool.and_true, Bool.false_and, Bool.and_false, Bool.true_or, Bool.false_or, Bool.or_true, Bool.or_false])
        cases hW : (List.filter (fun d => !(match d with | .str x => !decide (x ∈ G) | _ => true)) (List.map PyData.str (wordsA rs))).isEmpty with
        | false =>
          (try simp only [wAll, frzS, wpLc, wipeS, zipS, enmS, OV.fz, reduceIte, List.getElem?_cons_zero, List.getElem?_cons_succ, List.set_cons_zero, List.set_cons_succ, Option.map_some, Option.map_none, if_true, if_false, Bool.false_eq_true, ite_true, ite_false, Bool.not_true, Bool.not_false, true_and, and_true, exists_eq_left, Bool.true_and, Bool.and_true, Bool.false_and, Bool.and_false, Bool.true_or, Bool.false_or, Bool.or_true, Bool.or_false])
          exact ⟨hb3, as, _, _, _, rfl, by omega, haa, hsu, hab⟩
        | true =>
          have hW := none_in.mp hW
          (try simp only [wAll, frzS, wpLc, wipeS, zipS, enmS, OV.fz, reduceIte, List.getElem?_cons_zero, List.getElem?_cons_succ, List.set_cons_zero, List.set_cons_succ, Option.map_some, Option.map_none, if_true, if_false, Bool.false_eq_true, ite_true, ite_false, Bool.not_true, Bool.not_false, true_and, and_true, exists_eq_left, Bool.true_and, Bool.and_true, Bool.false_and, Bool.and_false, Bool.true_or, Bool.false_or, Bool.or_true, Bool.or_false])
          refine b19 hb3 (by decide) (by decide) fun z S4 hb4 _ _ => ?_
          (try simp only [wAll, frzS, wpLc, wipeS, zipS, enmS, OV.fz, reduceIte, List.getElem?_cons_zero, List.getElem?_cons_succ, List.set_cons_zero, List.set_cons_succ, Option.map_some, Option.map_none, if_true, if_false, Bool.false_eq_true, ite_true, ite_false, Bool.not_true, Bool.not_false, true_and, and_true, exists_eq_left, Bool.true_and, Bool.and_true, Bool.false_and, Bool.and_false, Bool.true_or, Bool.false_or, Bool.or_true, Bool.or_false])
          split
          · (try simp only [wAll, frzS, wpLc, wipeS, zipS, enmS, OV.fz, reduceIte, List.getElem?_cons_zero, List.getElem?_cons_succ, List.set_cons_zero, List.set_cons_succ, Option.map_some, Option.map_none, if_true, if_false, Bool.false_eq_true, ite_true, ite_false, Bool.not_true, Bool.not_false, true_and, and_true, exists_eq_left, Bool.true_and, Bool.and_true, Bool.false_and, Bool.and_false, Bool.true_or, Bool.false_or, Bool.or_true, Bool.or_false])
            refine b20 hb4 (by simp) (by simp) fun v hv S5 hb5 => ?_
            obtain ⟨c', rfl, hc1', hc3'⟩ : ∃ c' : Int, v = .int c' ∧ 1 ≤ c' ∧ c' ≤ c := by
              simp only [List.mem_cons, List.not_mem_nil, or_false] at hv
              rcases hv with rfl | rfl | rfl
              · exact ⟨_, rfl, hc1, by omega⟩
              · exact ⟨_, rfl, hc1, by omega⟩
              · exact ⟨_, rfl, by decide, hc1⟩
            (try simp only [wAll, frzS, wpLc, wipeS, zipS, enmS, OV.fz, reduceIte, List.getElem?_cons_zero, List.getElem?_cons_succ, List.set_cons_zero, List.set_cons_succ, Option.map_some, Option.map_none, if_true, if_false, Bool.false_eq_true, ite_true, ite_false, Bool.not_true, Bool.not_false, true_and, and_true, exists_eq_left, Bool.true_and, Bool.and_true, Bool.false_and, Bool.and_false, Bool.true_or, Bool.false_or, Bool.or_true, Bool.or_false])
            refine ⟨by simp; show _ ≤ 16777216; omega, hb5, as ++ [.tuple [.str x, .int c', .tuple rs]], _, _, _, rfl, by simp; omega, ?_, ?_, ?_⟩
            · rw [List.all_append, haa]
              simp [ask_ok hx hc1' (by omega) hrl (rules_left hra hGs hW)]
            · rw [fsts_app, List.take_succ, hqi]
              exact List.Sublist.append has (List.Sublist.refl _)
            · intro q' hq'
              rcases List.mem_append.mp hq' with q | q
              · exact hab q' q
              · rw [List.mem_singleton] at q
                subst q
                exact ⟨_, heM, rfl, hc3'⟩
          · (try simp only [wAll, frzS, wpLc, wipeS, zipS, enmS, OV.fz, reduceIte, List.getElem?_cons_zero, List.getElem?_cons_succ, List.set_cons_zero, List.set_cons_succ, Option.map_some, Option.map_none, if_true, if_false, Bool.false_eq_true, ite_true, ite_false, Bool.not_true, Bool.not_false, true_and, and_true, exists_eq_left, Bool.true_and, Bool.and_true, Bool.false_and, Bool.and_false, Bool.true_or, Bool.false_or, Bool.or_true, Bool.or_false])
            exact ⟨hb4, as, _, _, _, rfl, by omega, haa, hsu, hab⟩
      · rintro sl S3 ⟨hb3, as, t5, t12, t13, rfl, hal, haa, has, hab⟩
        rw [List.take_of_length_le (by simp [fsts])] at has
        show op1 (exSs _ _ _ T2) _
        have hswp : (isRow (.tuple sw) 0 3 && (sw.all (isRule (fsts fs)) && sw.all fun e => isNone (itm e 2))) = true := hsw
        simp only [Bool.and_eq_true] at hswp
        obtain ⟨w1, w2, w3⟩ := hswp
        have w4 := (isRow_tup w1).2.2
        have e4 : itms (.tuple sw) = sw := rfl
        rw [e4] at w4
        rw [← hT2]
        generalize hT3 : (Sms.cons (.asg (.nm 15) _) _) = T3
        have key2 : ∀ as' : List PyData, as'.all (isAsk (fsts fs')) = true → 1 ≤ as'.length → as'.length ≤ 4 → asc (fsts as') = true → below as' qs → op1 (exSs (Ek (k + 2)) [some (.cell r), some (.val (.tuple [.tuple fs, m, .tuple qs, .tuple sw])), some (.val (.list K)), none, some (.val (.tuple fs')), t5, t6, t7, t8, t9, some (.val (.list (G.map .str))), some (.val (.tuple as')), t12, t13, none, none] S3 T3) (retO Q) := by
          intro as' a1 a2 a3 a4 a5
          have fin : ∀ sw' : List PyData, isSweep (fsts fs') (.tuple sw') = true → WP (C (k + 2) 20 [.cell r, .val (.list [.str "whole", .str "part"])] S3) fun v S4 => asF (.sv v) fun v => WP (C (k + 2) 20 [.cell r, .val (.list [.tuple sw', .tuple []])] S4) fun v' S5 => asF (.sv v') fun v' => op1 (tupS [.val (.tuple fs'), v, .val (.tuple as'), v']) fun z => asF z fun v => asFr v fun v => Q v S5 := by
            intro sw' hs'
            refine b20 hb3 (by simp) (by simp) fun d hd S4 hb4 => ?_
            (try simp only [wAll, frzS, wpLc, wipeS, zipS, enmS, OV.fz, reduceIte, List.getElem?_cons_zero, List.getElem?_cons_succ, List.set_cons_zero, List.set_cons_succ, Option.map_some, Option.map_none, if_true, if_false, Bool.false_eq_true, ite_true, ite_false, Bool.not_true, Bool.not_false, true_and, and_true, exists_eq_left, Bool.true_and, Bool.and_true, Bool.false_and, Bool.and_false, Bool.true_or, Bool.false_or, Bool.or_true, Bool.or_false])
            refine b20 hb4 (by simp) (by simp) fun d2 hd2 S5 hb5 => ?_
            have hmm : isManner d = true := manner_of (by
              simp only [List.mem_cons, List.not_mem_nil, or_false] at hd ⊢
              rcases hd with q | q
              · exact .inl q
              · exact .inr (.inl q))
            obtain ⟨s2, rfl, hs2⟩ : ∃ s2, d2 = .tuple s2 ∧ isSweep (fsts fs') (.tuple s2) = true := by
              simp only [List.mem_cons, List.not_mem_nil, or_false] at hd2
              rcases hd2 with rfl | rfl
              · exact ⟨_, rfl, hs'⟩
              · exact ⟨_, rfl, sweep_nil⟩
            (try simp only [wAll, frzS, wpLc, wipeS, zipS, enmS, OV.fz, reduceIte, List.getElem?_cons_zero, List.getElem?_cons_succ, List.set_cons_zero, List.set_cons_succ, Option.map_some, Option.map_none, if_true, if_false, Bool.false_eq_true, ite_true, ite_false, Bool.not_true, Bool.not_false, true_and, and_true, exists_eq_left, Bool.true_and, Bool.and_true, Bool.false_and, Bool.and_false, Bool.true_or, Bool.false_or, Bool.or_true, Bool.or_false])
            exact h fs' d as' s2 S5 hb5 (ed_ok hF' hmm a1 a2 a3 a4 hs2) hsub' a5
          rw [← hT3]
          (try simp only [wAll, frzS, wpLc, wipeS, zipS, enmS, OV.fz, reduceIte, List.getElem?_cons_zero, List.getElem?_cons_succ, List.set_cons_zero, List.set_cons_succ, Option.map_some, Option.map_none, if_true, if_false, Bool.false_eq_true, ite_true, ite_false, Bool.not_true, Bool.not_false, true_and, and_true, exists_eq_left, Bool.true_and, Bool.and_true, Bool.false_and, Bool.and_false, Bool.true_or, Bool.false_or, Bool.or_true, Bool.or_false])
          rw [at3]
          (try simp only [wAll, frzS, wpLc, wipeS, zipS, enmS, OV.fz, reduceIte, List.getElem?_cons_zero, List.getElem?_cons_succ, List.set_cons_zero, List.set_cons_succ, Option.map_some, Option.map_none, if_true, if_false, Bool.false_eq_true, ite_true, ite_false, Bool.not_true, Bool.not_false, true_and, and_true, exists_eq_left, Bool.true_and, Bool.and_true, Bool.false_and, Bool.and_false, Bool.true_or, Bool.false_or, Bool.or_true, Bool.or_false])
          refine b29 (k := k + 1) w2 (by omega) ?_
          (try simp only [wAll, frzS, wpLc, wipeS, zipS, enmS, OV.fz, reduceIte, List.getElem?_cons_zero, List.getElem?_cons_succ, List.set_cons_zero, List.set_cons_succ, Option.map_some, Option.map_none, if_true, if_false, Bool.false_eq_true, ite_true, ite_false, Bool.not_true, Bool.not_false, true_and, and_true, exists_eq_left, Bool.true_and, Bool.and_true, Bool.false_and, Bool.and_false, Bool.true_or, Bool.false_or, Bool.or_true, Bool.or_false])
          rw [lc_gone (G := G) (by simp) (by decide) rfl]
          (try simp only [wAll, frzS, wpLc, wipeS, zipS, enmS, OV.fz, reduceIte, List.getElem?_cons_zero, List.getElem?_cons_succ, List.set_cons_zero, List.set_cons_succ, Option.map_some, Option.map_none, if_true, if_false, Bool.false_eq_true, ite_true, ite_false, Bool.not_true, Bool.not_false, true_and, and_true, exists_eq_left, Bool.true_and, Bool.and_true, Bool.false_and, Bool.and_false, Bool.true_or, Bool.false_or, Bool.or_true, Bool.or_false])
          cases hW : (List.filter (fun d => !(match d with | .str x => !decide (x ∈ G) | _ => true)) (List.map PyData.str (wordsA sw))).isEmpty with
          | false =>
            (try simp only [wAll, frzS, wpLc, wipeS, zipS, enmS, OV.fz, reduceIte, List.getElem?_cons_zero, List.getElem?_cons_succ, List.set_cons_zero, List.set_cons_succ, Option.map_some, Option.map_none, if_true, if_false, Bool.false_eq_true, ite_true, ite_false, Bool.not_true, Bool.not_false, true_and, and_true, exists_eq_left, Bool.true_and, Bool.and_true, Bool.false_and, Bool.and_false, Bool.true_or, Bool.false_or, Bool.or_true, Bool.or_false])
            have := fin [] sweep_nil
            simp only [asF_sv] at this
            exact this
          | true =>
            have hW := none_in.mp hW
            have hs' : isSweep (fsts fs') (.tuple sw) = true := by
              show (isRow (.tuple sw) 0 3 && (sw.all (isRule (fsts fs')) && sw.all fun e => isNone (itm e 2))) = true
              rw [w1, w3, rules_leftS w2 hGs hW]
              rfl
            (try simp only [wAll, frzS, wpLc, wipeS, zipS, enmS, OV.fz, reduceIte, List.getElem?_cons_zero, List.getElem?_cons_succ, List.set_cons_zero, List.set_cons_succ, Option.map_some, Option.map_none, if_true, if_false, Bool.false_eq_true, ite_true, ite_false, Bool.not_true, Bool.not_false, true_and, and_true, exists_eq_left, Bool.true_and, Bool.and_true, Bool.false_and, Bool.and_false, Bool.true_or, Bool.false_or, Bool.or_true, Bool.or_false])
            have := fin sw hs'
            simp only [asF_sv] at this
            exact this
        (try simp only [wAll, frzS, wpLc, wipeS, zipS, enmS, OV.fz, reduceIte, List.getElem?_cons_zero, List.getElem?_cons_succ, List.set_cons_zero, List.set_cons_succ, Option.map_some, Option.map_none, if_true, if_false, Bool.false_eq_true, ite_true, ite_false, Bool.not_true, Bool.not_false, true_and, and_true, exists_eq_left, Bool.true_and, Bool.and_true, Bool.false_and, Bool.and_false, Bool.true_or, Bool.false_or, Bool.or_true, Bool.or_false])
        rw [o_eqtnil]
        (try simp only [wAll, frzS, wpLc, wipeS, zipS, enmS, OV.fz, reduceIte, List.getElem?_cons_zero, List.getElem?_cons_succ, List.set_cons_zero, List.set_cons_succ, Option.map_some, Option.map_none, if_true, if_false, Bool.false_eq_true, ite_true, ite_false, Bool.not_true, Bool.not_false, true_and, and_true, exists_eq_left, Bool.true_and, Bool.and_true, Bool.false_and, Bool.and_false, Bool.true_or, Bool.false_or, Bool.or_true, Bool.or_false])
        cases hA : as.isEmpty with
        | false =>
          (try simp only [wAll, frzS, wpLc, wipeS, zipS, enmS, OV.fz, reduceIte, List.getElem?_cons_zero, List.getElem?_cons_succ, List.set_cons_zero, List.set_cons_succ, Option.map_some, Option.map_none, if_true, if_false, Bool.false_eq_true, ite_true, ite_false, Bool.not_true, Bool.not_false, true_and, and_true, exists_eq_left, Bool.true_and, Bool.and_true, Bool.false_and, Bool.and_false, Bool.true_or, Bool.false_or, Bool.or_true, Bool.or_false])
          exact key2 as haa (by cases as with | nil => cases hA | cons a r => simp) (by omega) (asc_sub hqa has) ⟨has, hab⟩
        | true =>
          have hA : as = [] := List.isEmpty_iff.mp hA
          (try simp only [wAll, frzS, wpLc, wipeS, zipS, enmS, OV.fz, reduceIte, List.getElem?_cons_zero, List.getElem?_cons_succ, List.set_cons_zero, List.set_cons_succ, Option.map_some, Option.map_none, if_true, if_false, Bool.false_eq_true, ite_true, ite_false, Bool.not_true, Bool.not_false, true_and, and_true, exists_eq_left, Bool.true_and, Bool.and_true, Bool.false_and, Bool.and_false, Bool.true_or, Bool.false_or, Bool.or_true, Bool.or_false])
          rw [at2]
          (try simp only [wAll, frzS, wpLc, wipeS, zipS, enmS, OV.fz, reduceIte, List.getElem?_cons_zero, List.getElem?_cons_succ, List.set_cons_zero, List.set_cons_succ, Option.map_some, Option.map_none, if_true, if_false, Bool.false_eq_true, ite_true, ite_false, Bool.not_true, Bool.not_false, true_and, and_true, exists_eq_left, Bool.true_and, Bool.and_true, Bool.false_and, Bool.and_false, Bool.true_or, Bool.false_or, Bool.or_true, Bool.or_false])
          rw [atI_get (i := 0) (j := 0) rfl (by omega)]
          have hqm : qs.getD 0 .none ∈ qs := by rw [List.getD_eq_getElem?_getD, List.getElem?_eq_getElem (by omega)]; exact List.getElem_mem _
          have hq0 : (fsts qs)[0]? = some (strOf (itm (qs.getD 0 .none) 0)) := by
            unfold fsts
            rw [List.getElem?_map, List.getD_eq_getElem?_getD, List.getElem?_eq_getElem (by omega)]
            rfl
          generalize qs.getD 0 .none = q0 at *
          obtain ⟨x, c, rs, rfl, hx, hc1, hc3, hrl, hra⟩ := ask_parts (List.all_eq_true.mp hq q0 hqm)
          (try simp only [wAll, frzS, wpLc, wipeS, zipS, enmS, OV.fz, reduceIte, List.getElem?_cons_zero, List.getElem?_cons_succ, List.set_cons_zero, List.set_cons_succ, Option.map_some, Option.map_none, if_true, if_false, Bool.false_eq_true, ite_true, ite_false, Bool.not_true, Bool.not_false, true_and, and_true, exists_eq_left, Bool.true_and, Bool.and_true, Bool.false_and, Bool.and_false, Bool.true_or, Bool.false_or, Bool.or_true, Bool.or_false])
          rw [atI_get (i := 0) (j := 0) rfl (by simp)]
          (try simp only [wAll, frzS, wpLc, wipeS, zipS, enmS, OV.fz, reduceIte, List.getElem?_cons_zero, List.getElem?_cons_succ, List.set_cons_zero, List.set_cons_succ, Option.map_some, Option.map_none, if_true, if_false, Bool.false_eq_true, ite_true, ite_false, Bool.not_true, Bool.not_false, true_and, and_true, exists_eq_left, Bool.true_and, Bool.and_true, Bool.false_and, Bool.and_false, Bool.true_or, Bool.false_or, Bool.or_true, Bool.or_false])
          refine key2 [.tuple [.str x, .int 1, .tuple []]] ?_ (by simp) (by simp) rfl ⟨?_, ?_⟩
          · simp only [List.all_cons, List.all_nil, Bool.and_true]
            exact ask_ok hx (by decide) (by decide) (by simp) rfl
          · show [x].Sublist (fsts qs)
            rw [List.singleton_sublist]
            exact List.mem_of_getElem? hq0
          · intro q' hq'
            rw [List.mem_singleton] at hq'
            subst hq'
            exact ⟨_, hqm, rfl, hc1⟩
    (try simp only [wAll, frzS, wpLc, wipeS, zipS, enmS, OV.fz, reduceIte, List.getElem?_cons_zero, List.getElem?_cons_succ, List.set_cons_zero, List.set_cons_succ, Option.map_some, Option.map_none, if_true, if_false, Bool.false_eq_true, ite_true, ite_false, Bool.not_true, Bool.not_false, true_and, and_true, exists_eq_left, Bool.true_and, Bool.and_true, Bool.false_and, Bool.and_false, Bool.true_or, Bool.false_or, Bool.or_true, Bool.or_false])
    rw [o_nelnil]
    (try simp only [wAll, frzS, wpLc, wipeS, zipS, enmS, OV.fz, reduceIte, List.getElem?_cons_zero, List.getElem?_cons_succ, List.set_cons_zero, List.set_cons_succ, Option.map_some, Option.map_none, if_true, if_false, Bool.false_eq_true, ite_true, ite_false, Bool.not_true, Bool.not_false, true_and, and_true, exists_eq_left, Bool.true_and, Bool.and_true, Bool.false_and, Bool.and_false, Bool.true_or, Bool.false_or, Bool.or_true, Bool.or_false])
    cases hK : K0.isEmpty with
    | false =>
      (try simp only [wAll, frzS, wpLc, wipeS, zipS, enmS, OV.fz, reduceIte, List.getElem?_cons_zero, List.getElem?_cons_succ, List.set_cons_zero, List.set_cons_succ, Option.map_some, Option.map_none, if_true, if_false, Bool.false_eq_true, ite_true, ite_false, Bool.not_true, Bool.not_false, true_and, and_true, exists_eq_left, Bool.true_and, Bool.and_true, Bool.false_and, Bool.and_false, Bool.true_or, Bool.false_or, Bool.or_true, Bool.or_false])
      exact key K0 hs (fun q => by rw [q] at hK; cases hK)
    | true =>
      (try simp only [wAll, frzS, wpLc, wipeS, zipS, enmS, OV.fz, reduceIte, List.getElem?_cons_zero, List.getElem?_cons_succ, List.set_cons_zero, List.set_cons_succ, Option.map_some, Option.map_none, if_true, if_false, Bool.false_eq_true, ite_true, ite_false, Bool.not_true, Bool.not_false, true_and, and_true, exists_eq_left, Bool.true_and, Bool.and_true, Bool.false_and, Bool.and_false, Bool.true_or, Bool.false_or, Bool.or_true, Bool.or_false])
      rw [atI_get (i := 0) (j := 0) rfl (by omega)]
      (try simp only [wAll, frzS, wpLc, wipeS, zipS, enmS, OV.fz, reduceIte, List.getElem?_cons_zero, List.getElem?_cons_succ, List.set_cons_zero, List.set_cons_succ, Option.map_some, Option.map_none, if_true, if_false, Bool.false_eq_true, ite_true, ite_false, Bool.not_true, Bool.not_false, true_and, and_true, exists_eq_left, Bool.true_and, Bool.and_true, Bool.false_and, Bool.and_false, Bool.true_or, Bool.false_or, Bool.or_true, Bool.or_false])
      refine key [fs.getD 0 .none] ?_ (by simp)
      rw [List.singleton_sublist, List.getD_eq_getElem?_getD, List.getElem?_eq_getElem (by omega)]
      exact List.getElem_mem _

/-- an edition that comes of the newest one -/
def comes (fs qs : List PyData) (e : PyData) : Prop := ∃ fs' m' qs' sw', e = .tuple [.tuple fs', m', .tuple qs', .tuple sw'] ∧ isEd e = true ∧ (fsts fs').Sublist (fsts fs) ∧ below qs' qs
/-- a drawn family -/
def famOk (many : Nat) (eds : List PyData) : Prop := eds.length = many ∧ ∃ els fs m qs sw, eds = els ++ [.tuple [.tuple fs, m, .tuple qs, .tuple sw]] ∧ isEd (.tuple [.tuple fs, m, .tuple qs, .tuple sw]) = true ∧ ∀ e ∈ els, comes fs qs e
theorem pool_parts {xs : List Str} (h : poolB xs = true) : xs.length = 4 ∧ xs.Nodup ∧ ∀ x ∈ xs, isNm (.str x) = true := by
  unfold poolB at h
  simp only [Bool.and_eq_true, decide_eq_true_eq] at h
  exact ⟨h.1, h.2.1, List.all_eq_true.mp h.2.2⟩
theorem askB_parts {xs : List Str} (h : askB xs = true) : xs.length = 4 ∧ asc xs = true ∧ ∀ x ∈ xs, isNm (.str x) = true := by
  unfold askB at h
  simp only [Bool.and_eq_true, decide_eq_true_eq] at h
  exact ⟨h.1, h.2.1, List.all_eq_true.mp h.2.2⟩
theorem b31 {k r : Nat} {many fn : Int} {S : Store} {Q : SV → Store → Prop} (hb : Bag S r) (h1 : 1 ≤ many) (h9 : many ≤ 9) (f1 : 1 ≤ fn) (f3 : fn ≤ 3) (h : ∀ eds S', Bag S' r → famOk many.toNat eds → Q (.val (.tuple eds)) S') :
    WP (C (k + 7) 31 [.cell r, .val (.int many), .val (.int fn)] S) Q := by
  rw [u31]
  generalize hT : (Sms.cons (.ret _) _) = T
  (try simp only [wAll, frzS, wpLc, wipeS, zipS, enmS, OV.fz, reduceIte, List.getElem?_cons_zero, List.getElem?_cons_succ, List.set_cons_zero, List.set_cons_succ, Option.map_some, Option.map_none, if_true, if_false, Bool.false_eq_true, ite_true, ite_false, Bool.not_true, Bool.not_false, true_and, and_true, exists_eq_left, Bool.true_and, Bool.and_true, Bool.false_and, Bool.and_false, Bool.true_or, Bool.false_or, Bool.or_true, Bool.or_false])
  refine b21 (k := k + 3) hb fun xs S1 hb1 hxs => ?_
  obtain ⟨x4, xn, xm⟩ := pool_parts hxs
  (try simp only [wAll, frzS, wpLc, wipeS, zipS, enmS, OV.fz, reduceIte, List.getElem?_cons_zero, List.getElem?_cons_succ, List.set_cons_zero, List.set_cons_succ, Option.map_some, Option.map_none, if_true, if_false, Bool.false_eq_true, ite_true, ite_false, Bool.not_true, Bool.not_false, true_and, and_true, exists_eq_left, Bool.true_and, Bool.and_true, Bool.false_and, Bool.and_false, Bool.true_or, Bool.false_or, Bool.or_true, Bool.or_false])
  rw [(cutA (xs := xs.map PyData.str) (i := fn) fn.toNat (by omega) (by simp; omega)).2, ← List.map_take]
  refine b22 (k := k + 3) hb1 fun as S2 hb2 has => ?_
  obtain ⟨a4, aa, am⟩ := askB_parts has
  (try simp only [wAll, frzS, wpLc, wipeS, zipS, enmS, OV.fz, reduceIte, List.getElem?_cons_zero, List.getElem?_cons_succ, List.set_cons_zero, List.set_cons_succ, Option.map_some, Option.map_none, if_true, if_false, Bool.false_eq_true, ite_true, ite_false, Bool.not_true, Bool.not_false, true_and, and_true, exists_eq_left, Bool.true_and, Bool.and_true, Bool.false_and, Bool.and_false, Bool.true_or, Bool.false_or, Bool.or_true, Bool.or_false])
  simp only [sr_v, sr_n, sr_nil]
  (try simp only [wAll, frzS, wpLc, wipeS, zipS, enmS, OV.fz, reduceIte, List.getElem?_cons_zero, List.getElem?_cons_succ, List.set_cons_zero, List.set_cons_succ, Option.map_some, Option.map_none, if_true, if_false, Bool.false_eq_true, ite_true, ite_false, Bool.not_true, Bool.not_false, true_and, and_true, exists_eq_left, Bool.true_and, Bool.and_true, Bool.false_and, Bool.and_false, Bool.true_or, Bool.false_or, Bool.or_true, Bool.or_false])
  have ln : (xs.take fn.toNat).length = fn.toNat := by simp; omega
  have nn := xn.sublist (List.take_sublist fn.toNat xs)
  have nm : ∀ x ∈ xs.take fn.toNat, isNm (.str x) = true := fun x hx => xm x (List.mem_of_mem_take hx)
  generalize xs.take fn.toNat = ns at *
  have key : ∀ fs m qs sw S3, Bag S3 r → isEd (.tuple [.tuple fs, m, .tuple qs, .tuple sw]) = true → op1 (exSs (Ek (k + 6)) [some (.cell r), some (.val (.int many)), some (.val (.int fn)), some (.val (.list (ns.map .str))), some (.val (.list (as.map .str))), some (.val (.tuple [.tuple fs, m, .tuple qs, .tuple sw])), none] S3 T) (retO Q) := by
    intro fs m qs sw S3 hb3 hed
    rw [← hT]
    (try simp only [wAll, frzS, wpLc, wipeS, zipS, enmS, OV.fz, reduceIte, List.getElem?_cons_zero, List.getElem?_cons_succ, List.set_cons_zero, List.set_cons_succ, Option.map_some, Option.map_none, if_true, if_false, Bool.false_eq_true, ite_true, ite_false, Bool.not_true, Bool.not_false, true_and, and_true, exists_eq_left, Bool.true_and, Bool.and_true, Bool.false_and, Bool.and_false, Bool.true_or, Bool.false_or, Bool.or_true, Bool.or_false])
    refine ⟨by omega, ?_⟩
    have hrl : (rngD 0 (many - 1).toNat).length = (many - 1).toNat := by simp [rngD]
    refine lc_inv (fun i ys S => Bag S r ∧ ys.length = i ∧ ∀ e ∈ ys, comes fs qs e) ⟨hb3, rfl, fun _ h => absurd h (by simp)⟩ ?_ ?_
    · rintro i e ys S4 _ ⟨hb4, hl, hy⟩
      (try simp only [wAll, frzS, wpLc, wipeS, zipS, enmS, OV.fz, reduceIte, List.getElem?_cons_zero, List.getElem?_cons_succ, List.set_cons_zero, List.set_cons_succ, Option.map_some, Option.map_none, if_true, if_false, Bool.false_eq_true, ite_true, ite_false, Bool.not_true, Bool.not_false, true_and, and_true, exists_eq_left, Bool.true_and, Bool.and_true, Bool.false_and, Bool.and_false, Bool.true_or, Bool.false_or, Bool.or_true, Bool.or_false])
      refine b30 (k := k + 3) hb4 hed fun fs' m' qs' sw' S5 hb5 he' hs' hbl => ?_
      (try simp only [wAll, frzS, wpLc, wipeS, zipS, enmS, OV.fz, reduceIte, List.getElem?_cons_zero, List.getElem?_cons_succ, List.set_cons_zero, List.set_cons_succ, Option.map_some, Option.map_none, if_true, if_false, Bool.false_eq_true, ite_true, ite_false, Bool.not_true, Bool.not_false, true_and, and_true, exists_eq_left, Bool.true_and, Bool.and_true, Bool.false_and, Bool.and_false, Bool.true_or, Bool.false_or, Bool.or_true, Bool.or_false])
      refine ⟨hb5, by simp [hl], fun e he => ?_⟩
      rcases List.mem_append.mp he with q | q
      · exact hy e q
      · rw [List.mem_singleton] at q
        subst q
        exact ⟨fs', m', qs', sw', rfl, he', hs', hbl⟩
    · rintro ys S4 ⟨hb4, hl, hy⟩
      rw [hrl] at hl
      (try simp only [wAll, frzS, wpLc, wipeS, zipS, enmS, OV.fz, reduceIte, List.getElem?_cons_zero, List.getElem?_cons_succ, List.set_cons_zero, List.set_cons_succ, Option.map_some, Option.map_none, if_true, if_false, Bool.false_eq_true, ite_true, ite_false, Bool.not_true, Bool.not_false, true_and, and_true, exists_eq_left, Bool.true_and, Bool.and_true, Bool.false_and, Bool.and_false, Bool.true_or, Bool.false_or, Bool.or_true, Bool.or_false])
      refine ⟨by simp [hl]; show _ ≤ 16777216; omega, ?_⟩
      refine h _ _ hb4 ⟨by simp [hl]; omega, ys, fs, m, qs, sw, rfl, hed, hy⟩
  refine b19 hb2 (by decide) (by decide) fun z S3 hb3 _ _ => ?_
  (try simp only [wAll, frzS, wpLc, wipeS, zipS, enmS, OV.fz, reduceIte, List.getElem?_cons_zero, List.getElem?_cons_succ, List.set_cons_zero, List.set_cons_succ, Option.map_some, Option.map_none, if_true, if_false, Bool.false_eq_true, ite_true, ite_false, Bool.not_true, Bool.not_false, true_and, and_true, exists_eq_left, Bool.true_and, Bool.and_true, Bool.false_and, Bool.and_false, Bool.true_or, Bool.false_or, Bool.or_true, Bool.or_false])
  split
  · refine b20 hb3 (by simp) (by simp) fun v hv S4 hb4 => ?_
    obtain ⟨c, rfl, hc0, hc2⟩ : ∃ c : Int, v = .int c ∧ 0 ≤ c ∧ c ≤ 2 := by
      simp only [List.mem_cons, List.not_mem_nil, or_false] at hv
      rcases hv with rfl | rfl | rfl | rfl <;> exact ⟨_, rfl, by decide, by decide⟩
    (try simp only [wAll, frzS, wpLc, wipeS, zipS, enmS, OV.fz, reduceIte, List.getElem?_cons_zero, List.getElem?_cons_succ, List.set_cons_zero, List.set_cons_succ, Option.map_some, Option.map_none, if_true, if_false, Bool.false_eq_true, ite_true, ite_false, Bool.not_true, Bool.not_false, true_and, and_true, exists_eq_left, Bool.true_and, Bool.and_true, Bool.false_and, Bool.and_false, Bool.true_or, Bool.false_or, Bool.or_true, Bool.or_false])
    rw [(cutA (xs := as.map PyData.str) (i := 2 + c) (2 + c).toNat (by omega) (by simp; omega)).2, ← List.map_take]
    have al : (as.take (2 + c).toNat).length = (2 + c).toNat := by simp; omega
    refine b27 (k := k) hb4 (by omega) (by omega) nn nm (asc_sub aa (List.take_sublist ..)) (by omega) (by omega) (fun x hx => am x (List.mem_of_mem_take hx)) fun fs m qs sw S5 hb5 hed _ _ => ?_
    (try simp only [wAll, frzS, wpLc, wipeS, zipS, enmS, OV.fz, reduceIte, List.getElem?_cons_zero, List.getElem?_cons_succ, List.set_cons_zero, List.set_cons_succ, Option.map_some, Option.map_none, if_true, if_false, Bool.false_eq_true, ite_true, ite_false, Bool.not_true, Bool.not_false, true_and, and_true, exists_eq_left, Bool.true_and, Bool.and_true, Bool.false_and, Bool.and_false, Bool.true_or, Bool.false_or, Bool.or_true, Bool.or_false])
    exact key fs m qs sw S5 hb5 hed
  · refine b28 (k := k) hb3 (by omega) nn nm aa a4 am fun fs m qs sw S5 hb5 hed _ _ => ?_
    (try simp only [wAll, frzS, wpLc, wipeS, zipS, enmS, OV.fz, reduceIte, List.getElem?_cons_zero, List.getElem?_cons_succ, List.set_cons_zero, List.set_cons_succ, Option.map_some, Option.map_none, if_true, if_false, Bool.false_eq_true, ite_true, ite_false, Bool.not_true, Bool.not_false, true_and, and_true, exists_eq_left, Bool.true_and, Bool.and_true, Bool.false_and, Bool.and_false, Bool.true_or, Bool.false_or, Bool.or_true, Bool.or_false])
    exact key fs m qs sw S5 hb5 hed

def oI : Option Int → PyData
  | none => .none
  | some i => .int i
def rdW (o : Option Int) (s d : Int) (w : PyData) : Option Int := match o with
  | none => some d
  | some v => if v < s then some v else if isRefuse w = true then none else some (intOf w)
def rdF (o : Option Int) (f : PyData) : Option Int := rdW o (intOf (itm f 1)) (intOf (itm f 2)) (itm f 3)
theorem o_eqis {i : Int} {y : Str} : copS .eq (.sv (.val (.int i))) (.sv (.val (.str y))) = some false := by
  show (if min (PyData.depth (.int i)) (PyData.depth (.str y)) ≤ 64 then some (dIs (.int i) (.str y)) else none) = _
  rw [if_pos (by simp [PyData.depth])]
  simp [dIs, PyData.eqv]
theorem field_rows {e : PyData} (h : isField e = true) : ∃ x s d w, e = .tuple [.str x, .int s, .int d, w] ∧ isNm (.str x) = true ∧ 2 ≤ s ∧ 0 ≤ d ∧ d < s ∧ (w = .str "refuse" ∨ ∃ i, w = .int i) := by
  obtain ⟨x, s, d, w, rfl, h1, h2, h3, h4, h5, h6⟩ := field_parts h
  refine ⟨x, s, d, w, rfl, h1, h2, h4, h5, ?_⟩
  unfold isField at h
  simp only [Bool.and_eq_true] at h
  have h7 : (isRefuse w || isInt w 0 (s - 1)) = true := h.2.2.2
  rw [Bool.or_eq_true] at h7
  rcases h7 with q | q
  · cases w with
    | str y =>
      left
      have q : decide (y = "refuse") = true := q
      rw [of_decide_eq_true q]
    | _ => cases q
  · exact .inr ⟨_, (isInt_int q).1⟩
theorem isRefuse_int {i : Int} : isRefuse (.int i) = false := rfl
theorem s62 {k : Nat} {f : PyData} {o : Option Int} {S : Store} {Q : SV → Store → Prop} (h : isField f = true) : WP (C (k + 1) 62 [.val f, .val (oI o)] S) Q ↔ Q (.val (oI (rdF o f))) S := by
  obtain ⟨x, s, d, w, rfl, h1, h2, h3, h4, h5⟩ := field_rows h
  have i1 : intOf (itm (.tuple [.str x, .int s, .int d, w]) 1) = s := rfl
  have i2 : intOf (itm (.tuple [.str x, .int s, .int d, w]) 2) = d := rfl
  have i3 : itm (.tuple [.str x, .int s, .int d, w]) 3 = w := rfl
  rw [u62]
  cases o with
  | none =>
    simp only [oI, rdF, rdW, i1, i2, i3]
    (try simp only [wAll, wpLc, wipeS, zipS, enmS, OV.fz, reduceIte, List.getElem?_cons_zero, List.getElem?_cons_succ, List.set_cons_zero, List.set_cons_succ, Option.map_some, Option.map_none, if_true, if_false, Bool.false_eq_true, ite_true, ite_false, Bool.not_true, Bool.not_false, true_and, and_true, exists_eq_left, Bool.true_and, Bool.and_true, Bool.false_and, Bool.and_false, Bool.true_or, Bool.false_or, Bool.or_true, Bool.or_false])
    simp only [isNon]
    (try simp only [wAll, wpLc, wipeS, zipS, enmS, OV.fz, reduceIte, List.getElem?_cons_zero, List.getElem?_cons_succ, List.set_cons_zero, List.set_cons_succ, Option.map_some, Option.map_none, if_true, if_false, Bool.false_eq_true, ite_true, ite_false, Bool.not_true, Bool.not_false, true_and, and_true, exists_eq_left, Bool.true_and, Bool.and_true, Bool.false_and, Bool.and_false, Bool.true_or, Bool.false_or, Bool.or_true, Bool.or_false])
  | some v =>
    simp only [oI, rdF, rdW, i1, i2, i3]
    (try simp only [wAll, wpLc, wipeS, zipS, enmS, OV.fz, reduceIte, List.getElem?_cons_zero, List.getElem?_cons_succ, List.set_cons_zero, List.set_cons_succ, Option.map_some, Option.map_none, if_true, if_false, Bool.false_eq_true, ite_true, ite_false, Bool.not_true, Bool.not_false, true_and, and_true, exists_eq_left, Bool.true_and, Bool.and_true, Bool.false_and, Bool.and_false, Bool.true_or, Bool.false_or, Bool.or_true, Bool.or_false])
    simp only [isNon]
    (try simp only [wAll, wpLc, wipeS, zipS, enmS, OV.fz, reduceIte, List.getElem?_cons_zero, List.getElem?_cons_succ, List.set_cons_zero, List.set_cons_succ, Option.map_some, Option.map_none, if_true, if_false, Bool.false_eq_true, ite_true, ite_false, Bool.not_true, Bool.not_false, true_and, and_true, exists_eq_left, Bool.true_and, Bool.and_true, Bool.false_and, Bool.and_false, Bool.true_or, Bool.false_or, Bool.or_true, Bool.or_false])
    by_cases hv : v < s
    · simp only [hv, decide_true]
      (try simp only [wAll, wpLc, wipeS, zipS, enmS, OV.fz, reduceIte, List.getElem?_cons_zero, List.getElem?_cons_succ, List.set_cons_zero, List.set_cons_succ, Option.map_some, Option.map_none, if_true, if_false, Bool.false_eq_true, ite_true, ite_false, Bool.not_true, Bool.not_false, true_and, and_true, exists_eq_left, Bool.true_and, Bool.and_true, Bool.false_and, Bool.and_false, Bool.true_or, Bool.false_or, Bool.or_true, Bool.or_false])
    · simp only [hv, decide_false]
      (try simp only [wAll, wpLc, wipeS, zipS, enmS, OV.fz, reduceIte, List.getElem?_cons_zero, List.getElem?_cons_succ, List.set_cons_zero, List.set_cons_succ, Option.map_some, Option.map_none, if_true, if_false, Bool.false_eq_true, ite_true, ite_false, Bool.not_true, Bool.not_false, true_and, and_true, exists_eq_left, Bool.true_and, Bool.and_true, Bool.false_and, Bool.and_false, Bool.true_or, Bool.false_or, Bool.or_true, Bool.or_false])
      rcases h5 with rfl | ⟨i, rfl⟩
      · simp only [c2]
        (try simp only [wAll, wpLc, wipeS, zipS, enmS, OV.fz, reduceIte, List.getElem?_cons_zero, List.getElem?_cons_succ, List.set_cons_zero, List.set_cons_succ, Option.map_some, Option.map_none, if_true, if_false, Bool.false_eq_true, ite_true, ite_false, Bool.not_true, Bool.not_false, true_and, and_true, exists_eq_left, Bool.true_and, Bool.and_true, Bool.false_and, Bool.and_false, Bool.true_or, Bool.false_or, Bool.or_true, Bool.or_false])
        simp only [show isRefuse (.str "refuse") = true from rfl, decide_true]
        (try simp only [wAll, wpLc, wipeS, zipS, enmS, OV.fz, reduceIte, List.getElem?_cons_zero, List.getElem?_cons_succ, List.set_cons_zero, List.set_cons_succ, Option.map_some, Option.map_none, if_true, if_false, Bool.false_eq_true, ite_true, ite_false, Bool.not_true, Bool.not_false, true_and, and_true, exists_eq_left, Bool.true_and, Bool.and_true, Bool.false_and, Bool.and_false, Bool.true_or, Bool.false_or, Bool.or_true, Bool.or_false])
      · simp only [c2, isRefuse_int]
        (try simp only [wAll, wpLc, wipeS, zipS, enmS, OV.fz, reduceIte, List.getElem?_cons_zero, List.getElem?_cons_succ, List.set_cons_zero, List.set_cons_succ, Option.map_some, Option.map_none, if_true, if_false, Bool.false_eq_true, ite_true, ite_false, Bool.not_true, Bool.not_false, true_and, and_true, exists_eq_left, Bool.true_and, Bool.and_true, Bool.false_and, Bool.and_false, Bool.true_or, Bool.false_or, Bool.or_true, Bool.or_false])
        simp only [o_eqis]
        (try simp only [wAll, wpLc, wipeS, zipS, enmS, OV.fz, reduceIte, List.getElem?_cons_zero, List.getElem?_cons_succ, List.set_cons_zero, List.set_cons_succ, Option.map_some, Option.map_none, if_true, if_false, Bool.false_eq_true, ite_true, ite_false, Bool.not_true, Bool.not_false, true_and, and_true, exists_eq_left, Bool.true_and, Bool.and_true, Bool.false_and, Bool.and_false, Bool.true_or, Bool.false_or, Bool.or_true, Bool.or_false])
        rfl

/-- a dict of texts and whole numbers from 0 on -/
def StI (st : List (PyData × PyData)) : Prop := ∀ p ∈ st, ∃ x v, p = (.str x, .int v) ∧ 0 ≤ v
def fetch (st : List (PyData × PyData)) (x : Str) : Option Int := (dLook st (.str x)).map intOf
theorem StI.put {st : List (PyData × PyData)} (h : StI st) {x : Str} {v : Int} (hv : 0 ≤ v) : StI (dPut st (.str x) (.int v)) := by
  induction st with
  | nil =>
    intro p hp
    rw [dPut, List.mem_singleton] at hp
    exact ⟨x, v, hp, hv⟩
  | cons q st ih =>
    obtain ⟨y, u, rfl, hu⟩ := h q List.mem_cons_self
    have hs : StI st := fun p hp => h p (List.mem_cons_of_mem _ hp)
    rw [dPut]
    split
    · intro p hp
      rcases List.mem_cons.mp hp with e | e
      · exact ⟨y, v, e, hv⟩
      · exact hs p e
    · intro p hp
      rcases List.mem_cons.mp hp with e | e
      · exact ⟨y, u, e, hu⟩
      · exact ih hs p e
theorem StI.merge {kvs : List (PyData × PyData)} (h : StI kvs) : ∀ {st : List (PyData × PyData)}, StI st → StI (dMerge st kvs) := by
  induction kvs with
  | nil => intro st hs; exact hs
  | cons p r ih =>
    intro st hs
    obtain ⟨x, v, rfl, hv⟩ := h p List.mem_cons_self
    rw [dMerge]
    exact ih (fun q hq => h q (List.mem_cons_of_mem _ hq)) (hs.put hv)
theorem nkey_str (x : Str) : (match nkey (.str x) with | some n => decide (n.depth ≤ 8) | none => false) = true := by
  simp [nkey, NestedKey.depth]
theorem StI.fits {st : List (PyData × PyData)} (h : StI st) (x : Str) : keyFits st (.str x) = true := by
  unfold keyFits
  rw [Bool.and_eq_true]
  refine ⟨?_, nkey_str x⟩
  cases st with
  | nil => rfl
  | cons p r =>
    obtain ⟨y, v, rfl, _⟩ := h p List.mem_cons_self
    rfl
theorem StI.look {st : List (PyData × PyData)} (h : StI st) (x : Str) : dLook st (.str x) = (fetch st x).map .int ∧ ∀ v, fetch st x = some v → 0 ≤ v := by
  unfold fetch
  induction st with
  | nil => exact ⟨rfl, fun v e => by cases e⟩
  | cons p r ih =>
    obtain ⟨y, v, rfl, hv⟩ := h p List.mem_cons_self
    rw [dLook]
    split
    · exact ⟨rfl, fun u e => by cases e; exact hv⟩
    · exact ih fun q hq => h q (List.mem_cons_of_mem _ hq)
theorem g_none {st : List (PyData × PyData)} (h : StI st) (x : Str) : get2S (.sv (.dct st)) (.str x) .none = some (.sv (.val (oI (fetch st x)))) := by
  show (if keyFits st (.str x) = true then vD ((dLook st (.str x)).getD .none) else none) = _
  rw [if_pos (h.fits x), (h.look x).1]
  cases fetch st x <;> rfl
theorem g_int {st : List (PyData × PyData)} (h : StI st) (x : Str) (d : Int) : get2S (.sv (.dct st)) (.str x) (.int d) = some (.sv (.val (.int ((fetch st x).getD d)))) := by
  show (if keyFits st (.str x) = true then vD ((dLook st (.str x)).getD (.int d)) else none) = _
  rw [if_pos (h.fits x), (h.look x).1]
  cases fetch st x <;> rfl
/-- a record's entries -/
def recD (ps : List (Str × Int)) : List PyData := ps.map fun p => .tuple [.str p.1, .int p.2]
theorem pairs_rec (ps : List (Str × Int)) : pairsD (recD ps) = some (ps.map fun p => (.str p.1, .int p.2)) := by
  induction ps with
  | nil => rfl
  | cons p r ih => show (pairsD (recD r)).map _ = _; rw [ih]; rfl
theorem o_dict {ps : List (Str × Int)} : biS .dict [.sv (.val (.tuple (recD ps)))] = some (.new (.dct (dMerge [] (ps.map fun p => (.str p.1, .int p.2))))) := by
  show (match pairsD (recD ps) with | some kvs => if strKeys kvs then some (RV.new (.dct (dMerge [] kvs))) else none | none => none) = _
  rw [pairs_rec]
  dsimp only
  rw [if_pos]
  unfold strKeys
  rw [List.all_eq_true]
  intro q hq
  obtain ⟨p, _, rfl⟩ := List.mem_map.mp hq
  rfl
def stOf (ps : List (Str × Int)) : List (PyData × PyData) := dMerge [] (ps.map fun p => (.str p.1, .int p.2))
theorem stI_of {ps : List (Str × Int)} (h : ∀ p ∈ ps, 0 ≤ p.2) : StI (stOf ps) := by
  refine StI.merge (fun q hq => ?_) fun _ h => nomatch h
  obtain ⟨p, hp, rfl⟩ := List.mem_map.mp hq
  exact ⟨_, _, rfl, h p hp⟩

/-- the values that an edition reads out of a record -/
def vals3 (st : List (PyData × PyData)) (fs : List PyData) : List (Option Int) := fs.map fun f => rdF (fetch st (strOf (itm f 0))) f
def ansD (vs : List (Option Int)) : PyData := if none ∈ vs then .none else .tuple (vs.map oI)
theorem any_none : ∀ vs : List (Option Int), ((vs.map oI).any fun z => dIs z .none) = decide (none ∈ vs)
  | [] => rfl
  | none :: vs => by simp [oI, dIs, PyData.eqv]
  | some i :: vs => by
    rw [List.map_cons, List.any_cons, any_none vs]
    simp [oI, dIs, PyData.eqv]
theorem o_innone {vs : List (Option Int)} : copS .isin (.sv (.val .none)) (.sv (.val (.tuple (vs.map oI)))) = some (decide (none ∈ vs)) := by
  show (if PyData.depth .none ≤ 64 then some ((vs.map oI).any fun z => dIs z .none) else none) = _
  rw [if_pos (by simp [PyData.depth]), any_none]
theorem s63 {k : Nat} {fs rest : List PyData} {ps : List (Str × Int)} {S : Store} {Q : SV → Store → Prop} (hf : ∀ f ∈ fs, isField f = true) (hp : ∀ p ∈ ps, 0 ≤ p.2) :
    WP (C (k + 2) 63 [.val (.tuple (.tuple fs :: rest)), .val (.tuple (recD ps))] S) Q ↔ Q (.val (ansD (vals3 (stOf ps) fs))) S := by
  have hst := stI_of hp
  rw [u63]
  (try simp only [wAll, frzS, wpLc, wipeS, zipS, enmS, OV.fz, reduceIte, List.getElem?_cons_zero, List.getElem?_cons_succ, List.set_cons_zero, List.set_cons_succ, Option.map_some, Option.map_none, if_true, if_false, Bool.false_eq_true, ite_true, ite_false, Bool.not_true, Bool.not_false, true_and, and_true, exists_eq_left, Bool.true_and, Bool.and_true, Bool.false_and, Bool.and_false, Bool.true_or, Bool.false_or, Bool.or_true, Bool.or_false])
  rw [o_dict]
  (try simp only [wAll, frzS, wpLc, wipeS, zipS, enmS, OV.fz, reduceIte, List.getElem?_cons_zero, List.getElem?_cons_succ, List.set_cons_zero, List.set_cons_succ, Option.map_some, Option.map_none, if_true, if_false, Bool.false_eq_true, ite_true, ite_false, Bool.not_true, Bool.not_false, true_and, and_true, exists_eq_left, Bool.true_and, Bool.and_true, Bool.false_and, Bool.and_false, Bool.true_or, Bool.false_or, Bool.or_true, Bool.or_false])
  rw [atI_get (i := 0) (j := 0) rfl (by simp)]
  (try simp only [wAll, frzS, wpLc, wipeS, zipS, enmS, OV.fz, reduceIte, List.getElem?_cons_zero, List.getElem?_cons_succ, List.set_cons_zero, List.set_cons_succ, Option.map_some, Option.map_none, if_true, if_false, Bool.false_eq_true, ite_true, ite_false, Bool.not_true, Bool.not_false, true_and, and_true, exists_eq_left, Bool.true_and, Bool.and_true, Bool.false_and, Bool.and_false, Bool.true_or, Bool.false_or, Bool.or_true, Bool.or_false])
  rw [show (PyData.tuple fs :: rest).getD 0 .none = .tuple fs from rfl, o_seqt, op1_some, lc_map (fun f => oI (rdF (fetch (stOf ps) (strOf (itm f 0))) f)) fun f hm => ?_]
  · have e : fs.map (fun f => oI (rdF (fetch (stOf ps) (strOf (itm f 0))) f)) = (vals3 (stOf ps) fs).map oI := by unfold vals3; rw [List.map_map]; rfl
    rw [e, o_innone, op1_some]
    unfold ansD
    by_cases hn : none ∈ vals3 (stOf ps) fs
    · rw [if_pos hn, decide_eq_true hn, if_pos rfl]
    · rw [if_neg hn, decide_eq_false hn, if_neg Bool.false_ne_true]
  · obtain ⟨x, s, d, w, rfl, h1, h2, h3, h4, h5⟩ := field_rows (hf f hm)
    (try simp only [wAll, frzS, wpLc, wipeS, zipS, enmS, OV.fz, reduceIte, List.getElem?_cons_zero, List.getElem?_cons_succ, List.set_cons_zero, List.set_cons_succ, Option.map_some, Option.map_none, if_true, if_false, Bool.false_eq_true, ite_true, ite_false, Bool.not_true, Bool.not_false, true_and, and_true, exists_eq_left, Bool.true_and, Bool.and_true, Bool.false_and, Bool.and_false, Bool.true_or, Bool.false_or, Bool.or_true, Bool.or_false])
    rw [atI_get (i := 0) (j := 0) rfl (by simp)]
    (try simp only [wAll, frzS, wpLc, wipeS, zipS, enmS, OV.fz, reduceIte, List.getElem?_cons_zero, List.getElem?_cons_succ, List.set_cons_zero, List.set_cons_succ, Option.map_some, Option.map_none, if_true, if_false, Bool.false_eq_true, ite_true, ite_false, Bool.not_true, Bool.not_false, true_and, and_true, exists_eq_left, Bool.true_and, Bool.and_true, Bool.false_and, Bool.and_false, Bool.true_or, Bool.false_or, Bool.or_true, Bool.or_false])
    show op1 (get2S (.sv (.dct (stOf ps))) (.str x) .none) _
    rw [g_none hst]
    (try simp only [wAll, frzS, wpLc, wipeS, zipS, enmS, OV.fz, reduceIte, List.getElem?_cons_zero, List.getElem?_cons_succ, List.set_cons_zero, List.set_cons_succ, Option.map_some, Option.map_none, if_true, if_false, Bool.false_eq_true, ite_true, ite_false, Bool.not_true, Bool.not_false, true_and, and_true, exists_eq_left, Bool.true_and, Bool.and_true, Bool.false_and, Bool.and_false, Bool.true_or, Bool.false_or, Bool.or_true, Bool.or_false])
    rw [s62 (k := k) (hf _ hm)]
    (try simp only [wAll, frzS, wpLc, wipeS, zipS, enmS, OV.fz, reduceIte, List.getElem?_cons_zero, List.getElem?_cons_succ, List.set_cons_zero, List.set_cons_succ, Option.map_some, Option.map_none, if_true, if_false, Bool.false_eq_true, ite_true, ite_false, Bool.not_true, Bool.not_false, true_and, and_true, exists_eq_left, Bool.true_and, Bool.and_true, Bool.false_and, Bool.and_false, Bool.true_or, Bool.false_or, Bool.or_true, Bool.or_false])
    exact rfl

theorem s64 {k : Nat} {fs rest : List PyData} {S : Store} {Q : SV → Store → Prop} (hf : ∀ f ∈ fs, isField f = true) :
    WP (C (k + 1) 64 [.val (.tuple (.tuple fs :: rest))] S) Q ↔ Q (.val (.tuple (fs.map fun f => .int (intOf (itm f 2))))) S := by
  rw [u64]
  (try simp only [wAll, frzS, wpLc, wipeS, zipS, enmS, OV.fz, reduceIte, List.getElem?_cons_zero, List.getElem?_cons_succ, List.set_cons_zero, List.set_cons_succ, Option.map_some, Option.map_none, if_true, if_false, Bool.false_eq_true, ite_true, ite_false, Bool.not_true, Bool.not_false, true_and, and_true, exists_eq_left, Bool.true_and, Bool.and_true, Bool.false_and, Bool.and_false, Bool.true_or, Bool.false_or, Bool.or_true, Bool.or_false])
  rw [atI_get (i := 0) (j := 0) rfl (by simp)]
  (try simp only [wAll, frzS, wpLc, wipeS, zipS, enmS, OV.fz, reduceIte, List.getElem?_cons_zero, List.getElem?_cons_succ, List.set_cons_zero, List.set_cons_succ, Option.map_some, Option.map_none, if_true, if_false, Bool.false_eq_true, ite_true, ite_false, Bool.not_true, Bool.not_false, true_and, and_true, exists_eq_left, Bool.true_and, Bool.and_true, Bool.false_and, Bool.and_false, Bool.true_or, Bool.false_or, Bool.or_true, Bool.or_false])
  rw [show (PyData.tuple fs :: rest).getD 0 .none = .tuple fs from rfl, o_seqt, op1_some, lc_map (fun f => .int (intOf (itm f 2))) fun f hm => ?_]
  obtain ⟨x, s, d, w, rfl, h1, h2, h3, h4, h5⟩ := field_rows (hf f hm)
  (try simp only [wAll, frzS, wpLc, wipeS, zipS, enmS, OV.fz, reduceIte, List.getElem?_cons_zero, List.getElem?_cons_succ, List.set_cons_zero, List.set_cons_succ, Option.map_some, Option.map_none, if_true, if_false, Bool.false_eq_true, ite_true, ite_false, Bool.not_true, Bool.not_false, true_and, and_true, exists_eq_left, Bool.true_and, Bool.and_true, Bool.false_and, Bool.and_false, Bool.true_or, Bool.false_or, Bool.or_true, Bool.or_false])
  rw [atI_get (i := 2) (j := 2) rfl (by simp)]
  (try simp only [wAll, frzS, wpLc, wipeS, zipS, enmS, OV.fz, reduceIte, List.getElem?_cons_zero, List.getElem?_cons_succ, List.set_cons_zero, List.set_cons_succ, Option.map_some, Option.map_none, if_true, if_false, Bool.false_eq_true, ite_true, ite_false, Bool.not_true, Bool.not_false, true_and, and_true, exists_eq_left, Bool.true_and, Bool.and_true, Bool.false_and, Bool.and_false, Bool.true_or, Bool.false_or, Bool.or_true, Bool.or_false])
  rfl
theorem ed_shape {ed : PyData} (h : isEd ed = true) : ∃ fs rest, ed = .tuple (.tuple fs :: rest) ∧ (∀ f ∈ fs, isField f = true) ∧ asc (fsts fs) = true ∧ 1 ≤ fs.length ∧ fs.length ≤ 3 := by
  unfold isEd at h
  simp only [Bool.and_eq_true] at h
  obtain ⟨h0, ⟨h1, _⟩, _⟩ := h
  unfold areFields at h1
  simp only [Bool.and_eq_true] at h1
  obtain ⟨h2, h3, h4, _⟩ := h1
  have e0 := (isRow_tup h0).1
  rw [row4 h0] at e0
  obtain ⟨e1, e2, e3⟩ := isRow_tup h2
  rw [e1] at e0
  exact ⟨_, _, e0, List.all_eq_true.mp h3, h4, by omega, by omega⟩
theorem s66 {k : Nat} {fs rest : List PyData} {S : Store} {Q : SV → Store → Prop} (he : isEd (.tuple (.tuple fs :: rest)) = true) (hf : ∀ f ∈ fs, isField f = true) :
    WP (C (k + 9) 66 [.val (.tuple (.tuple fs :: rest))] S) Q ↔ Q (.val (.tuple (fs.map fun f => .int (intOf (itm f 2))))) S := by
  rw [u66]
  (try simp only [wAll, frzS, wpLc, wipeS, zipS, enmS, OV.fz, reduceIte, List.getElem?_cons_zero, List.getElem?_cons_succ, List.set_cons_zero, List.set_cons_succ, Option.map_some, Option.map_none, if_true, if_false, Bool.false_eq_true, ite_true, ite_false, Bool.not_true, Bool.not_false, true_and, and_true, exists_eq_left, Bool.true_and, Bool.and_true, Bool.false_and, Bool.and_false, Bool.true_or, Bool.false_or, Bool.or_true, Bool.or_false])
  rw [u61]
  (try simp only [wAll, frzS, wpLc, wipeS, zipS, enmS, OV.fz, reduceIte, List.getElem?_cons_zero, List.getElem?_cons_succ, List.set_cons_zero, List.set_cons_succ, Option.map_some, Option.map_none, if_true, if_false, Bool.false_eq_true, ite_true, ite_false, Bool.not_true, Bool.not_false, true_and, and_true, exists_eq_left, Bool.true_and, Bool.and_true, Bool.false_and, Bool.and_false, Bool.true_or, Bool.false_or, Bool.or_true, Bool.or_false])
  rw [s17 (k := k), he]
  (try simp only [wAll, frzS, wpLc, wipeS, zipS, enmS, OV.fz, reduceIte, List.getElem?_cons_zero, List.getElem?_cons_succ, List.set_cons_zero, List.set_cons_succ, Option.map_some, Option.map_none, if_true, if_false, Bool.false_eq_true, ite_true, ite_false, Bool.not_true, Bool.not_false, true_and, and_true, exists_eq_left, Bool.true_and, Bool.and_true, Bool.false_and, Bool.and_false, Bool.true_or, Bool.false_or, Bool.or_true, Bool.or_false])
  rw [s64 (k := k + 7) hf, asFr_val]
theorem s65 {k : Nat} {fs rest : List PyData} {ps : List (Str × Int)} {S : Store} {Q : SV → Store → Prop} (he : isEd (.tuple (.tuple fs :: rest)) = true) (hf : ∀ f ∈ fs, isField f = true) (hr : isRec (.tuple (recD ps)) = true) (hp : ∀ p ∈ ps, 0 ≤ p.2) :
    WP (C (k + 9) 65 [.val (.tuple (.tuple fs :: rest)), .val (.tuple (recD ps))] S) Q ↔ Q (.val (ansD (vals3 (stOf ps) fs))) S := by
  rw [u65]
  (try simp only [wAll, frzS, wpLc, wipeS, zipS, enmS, OV.fz, reduceIte, List.getElem?_cons_zero, List.getElem?_cons_succ, List.set_cons_zero, List.set_cons_succ, Option.map_some, Option.map_none, if_true, if_false, Bool.false_eq_true, ite_true, ite_false, Bool.not_true, Bool.not_false, true_and, and_true, exists_eq_left, Bool.true_and, Bool.and_true, Bool.false_and, Bool.and_false, Bool.true_or, Bool.false_or, Bool.or_true, Bool.or_false])
  rw [u61]
  (try simp only [wAll, frzS, wpLc, wipeS, zipS, enmS, OV.fz, reduceIte, List.getElem?_cons_zero, List.getElem?_cons_succ, List.set_cons_zero, List.set_cons_succ, Option.map_some, Option.map_none, if_true, if_false, Bool.false_eq_true, ite_true, ite_false, Bool.not_true, Bool.not_false, true_and, and_true, exists_eq_left, Bool.true_and, Bool.and_true, Bool.false_and, Bool.and_false, Bool.true_or, Bool.false_or, Bool.or_true, Bool.or_false])
  rw [s17 (k := k), he]
  (try simp only [wAll, frzS, wpLc, wipeS, zipS, enmS, OV.fz, reduceIte, List.getElem?_cons_zero, List.getElem?_cons_succ, List.set_cons_zero, List.set_cons_succ, Option.map_some, Option.map_none, if_true, if_false, Bool.false_eq_true, ite_true, ite_false, Bool.not_true, Bool.not_false, true_and, and_true, exists_eq_left, Bool.true_and, Bool.and_true, Bool.false_and, Bool.and_false, Bool.true_or, Bool.false_or, Bool.or_true, Bool.or_false])
  rw [u60]
  (try simp only [wAll, frzS, wpLc, wipeS, zipS, enmS, OV.fz, reduceIte, List.getElem?_cons_zero, List.getElem?_cons_succ, List.set_cons_zero, List.set_cons_succ, Option.map_some, Option.map_none, if_true, if_false, Bool.false_eq_true, ite_true, ite_false, Bool.not_true, Bool.not_false, true_and, and_true, exists_eq_left, Bool.true_and, Bool.and_true, Bool.false_and, Bool.and_false, Bool.true_or, Bool.false_or, Bool.or_true, Bool.or_false])
  rw [s5 (k := k + 4), hr]
  (try simp only [wAll, frzS, wpLc, wipeS, zipS, enmS, OV.fz, reduceIte, List.getElem?_cons_zero, List.getElem?_cons_succ, List.set_cons_zero, List.set_cons_succ, Option.map_some, Option.map_none, if_true, if_false, Bool.false_eq_true, ite_true, ite_false, Bool.not_true, Bool.not_false, true_and, and_true, exists_eq_left, Bool.true_and, Bool.and_true, Bool.false_and, Bool.and_false, Bool.true_or, Bool.false_or, Bool.or_true, Bool.or_false])
  rw [s63 (k := k + 6) hf hp, asFr_val]
theorem s67 {k : Nat} {fs rest : List PyData} {ps : List (Str × Int)} {S : Store} {Q : SV → Store → Prop} (hf : ∀ f ∈ fs, isField f = true) (hl : fs.length ≤ 3) (hp : ∀ p ∈ ps, 0 ≤ p.2) (h : Q (.val (ansD (vals3 (stOf ps) fs))) S) :
    WP (C (k + 1) 67 [.val (.tuple (.tuple fs :: rest)), .val (.tuple (recD ps))] S) Q := by
  have hst := stI_of hp
  rw [u67]
  (try simp only [wAll, frzS, wpLc, wipeS, zipS, enmS, OV.fz, reduceIte, List.getElem?_cons_zero, List.getElem?_cons_succ, List.set_cons_zero, List.set_cons_succ, Option.map_some, Option.map_none, if_true, if_false, Bool.false_eq_true, ite_true, ite_false, Bool.not_true, Bool.not_false, true_and, and_true, exists_eq_left, Bool.true_and, Bool.and_true, Bool.false_and, Bool.and_false, Bool.true_or, Bool.false_or, Bool.or_true, Bool.or_false])
  rw [o_dict]
  (try simp only [wAll, frzS, wpLc, wipeS, zipS, enmS, OV.fz, reduceIte, List.getElem?_cons_zero, List.getElem?_cons_succ, List.set_cons_zero, List.set_cons_succ, Option.map_some, Option.map_none, if_true, if_false, Bool.false_eq_true, ite_true, ite_false, Bool.not_true, Bool.not_false, true_and, and_true, exists_eq_left, Bool.true_and, Bool.and_true, Bool.false_and, Bool.and_false, Bool.true_or, Bool.false_or, Bool.or_true, Bool.or_false])
  simp only [setRs, op1_some, List.set_cons_zero, List.set_cons_succ]
  (try simp only [wAll, frzS, wpLc, wipeS, zipS, enmS, OV.fz, reduceIte, List.getElem?_cons_zero, List.getElem?_cons_succ, List.set_cons_zero, List.set_cons_succ, Option.map_some, Option.map_none, if_true, if_false, Bool.false_eq_true, ite_true, ite_false, Bool.not_true, Bool.not_false, true_and, and_true, exists_eq_left, Bool.true_and, Bool.and_true, Bool.false_and, Bool.and_false, Bool.true_or, Bool.false_or, Bool.or_true, Bool.or_false])
  rw [atI_get (i := 0) (j := 0) rfl (by simp)]
  (try simp only [wAll, frzS, wpLc, wipeS, zipS, enmS, OV.fz, reduceIte, List.getElem?_cons_zero, List.getElem?_cons_succ, List.set_cons_zero, List.set_cons_succ, Option.map_some, Option.map_none, if_true, if_false, Bool.false_eq_true, ite_true, ite_false, Bool.not_true, Bool.not_false, true_and, and_true, exists_eq_left, Bool.true_and, Bool.and_true, Bool.false_and, Bool.and_false, Bool.true_or, Bool.false_or, Bool.or_true, Bool.or_false])
  rw [show (PyData.tuple fs :: rest).getD 0 .none = .tuple fs from rfl, o_seqt, op1_some]
  refine forGo_inv (fun i sl S' => S' = S ∧ (none ∉ vals3 (stOf ps) (fs.take i)) ∧ ∃ t4 t5 t6 t7 t8, sl = [some (.val (.tuple (.tuple fs :: rest))), some (.val (.tuple (recD ps))), some (.dct (stOf ps)), some (.val (.tuple ((vals3 (stOf ps) (fs.take i)).map oI))), t4, t5, t6, t7, t8]) ?_ ?_ ?_
  · exact ⟨rfl, by simp [vals3], _, _, _, _, _, rfl⟩
  · rintro i f sl S' hi ⟨rfl, hn, t4, t5, t6, t7, t8, rfl⟩
    have hm := List.mem_of_getElem? hi
    have hil : i < fs.length := (List.getElem?_eq_some_iff.mp hi).1
    have htk : vals3 (stOf ps) (fs.take (i + 1)) = vals3 (stOf ps) (fs.take i) ++ [rdF (fetch (stOf ps) (strOf (itm f 0))) f] := by
      unfold vals3
      rw [List.take_succ, hi, List.map_append]; rfl
    have hmem : rdF (fetch (stOf ps) (strOf (itm f 0))) f ∈ vals3 (stOf ps) fs := List.mem_map.mpr ⟨f, hm, rfl⟩
    obtain ⟨x, s, d, w, rfl, h1, h2, h3, h4, h5⟩ := field_rows (hf f hm)
    rw [s_forB]
    (try simp only [wAll, frzS, wpLc, wipeS, zipS, enmS, OV.fz, reduceIte, List.getElem?_cons_zero, List.getElem?_cons_succ, List.set_cons_zero, List.set_cons_succ, Option.map_some, Option.map_none, if_true, if_false, Bool.false_eq_true, ite_true, ite_false, Bool.not_true, Bool.not_false, true_and, and_true, exists_eq_left, Bool.true_and, Bool.and_true, Bool.false_and, Bool.and_false, Bool.true_or, Bool.false_or, Bool.or_true, Bool.or_false])
    change op1 (get2S (.sv (.dct (stOf ps))) (.str x) (.int d)) _
    rw [g_int hst]
    (try simp only [wAll, frzS, wpLc, wipeS, zipS, enmS, OV.fz, reduceIte, List.getElem?_cons_zero, List.getElem?_cons_succ, List.set_cons_zero, List.set_cons_succ, Option.map_some, Option.map_none, if_true, if_false, Bool.false_eq_true, ite_true, ite_false, Bool.not_true, Bool.not_false, true_and, and_true, exists_eq_left, Bool.true_and, Bool.and_true, Bool.false_and, Bool.and_false, Bool.true_or, Bool.false_or, Bool.or_true, Bool.or_false])
    have e1 : rdF (fetch (stOf ps) (strOf (itm (.tuple [.str x, .int s, .int d, w]) 0))) (.tuple [.str x, .int s, .int d, w]) = rdF (fetch (stOf ps) x) (.tuple [.str x, .int s, .int d, w]) := rfl
    rw [e1] at hmem htk
    have i1 : intOf (itm (.tuple [.str x, .int s, .int d, w]) 1) = s := rfl
    have i2 : intOf (itm (.tuple [.str x, .int s, .int d, w]) 2) = d := rfl
    have i3 : itm (.tuple [.str x, .int s, .int d, w]) 3 = w := rfl
    unfold rdF at hmem htk
    simp only [i1, i2, i3] at hmem htk
    have hv0 : 0 ≤ (fetch (stOf ps) x).getD d := by
      cases e : fetch (stOf ps) x with
      | none => exact h3
      | some v => exact (hst.look x).2 v e
    have cut : ∀ v : Int, rdW (fetch (stOf ps) x) s d w = some v → 
        ((vals3 (stOf ps) (fs.take i)).map oI ++ [.int v] = (vals3 (stOf ps) (fs.take (i + 1))).map oI) ∧ none ∉ vals3 (stOf ps) (fs.take (i + 1)) := by
      intro v ev
      rw [htk, ev, List.map_append]
      exact ⟨rfl, by simp [hn]⟩
    have lz : ((vals3 (stOf ps) (fs.take i)).map oI).length + 1 ≤ szL := by
      simp only [List.length_map, vals3, List.length_take]
      show _ ≤ 16777216
      omega
    clear e1
    generalize fetch (stOf ps) x = o at *
    have fin : ∀ v : Int, rdW o s d w = some v → ∀ y, 
        ((vals3 (stOf ps) (fs.take i)).map oI).length + [PyData.int v].length ≤ szL ∧ none ∉ vals3 (stOf ps) (fs.take (i + 1)) ∧ ∃ t4 t5 t6 t7 t8,
          ([some (.val (.tuple (.tuple fs :: rest))), some (.val (.tuple (recD ps))), some (.dct (stOf ps)), some (.val (.tuple ((vals3 (stOf ps) (fs.take i)).map oI ++ [.int v]))), some (.val (.str x)), some (.val (.int s)), some (.val (.int d)), some (.val w), some (.val (.int y))] : Slots) =
          [some (.val (.tuple (.tuple fs :: rest))), some (.val (.tuple (recD ps))), some (.dct (stOf ps)), some (.val (.tuple ((vals3 (stOf ps) (fs.take (i + 1))).map oI))), t4, t5, t6, t7, t8] := by
      intro v ev y
      obtain ⟨q1, q2⟩ := cut v ev
      rw [q1]
      exact ⟨lz, q2, _, _, _, _, _, rfl⟩
    by_cases hs : s ≤ o.getD d
    · have hno : ¬ o.getD d < s := by omega
      simp only [hs, hno, decide_true, decide_false]
      (try simp only [wAll, frzS, wpLc, wipeS, zipS, enmS, OV.fz, reduceIte, List.getElem?_cons_zero, List.getElem?_cons_succ, List.set_cons_zero, List.set_cons_succ, Option.map_some, Option.map_none, if_true, if_false, Bool.false_eq_true, ite_true, ite_false, Bool.not_true, Bool.not_false, true_and, and_true, exists_eq_left, Bool.true_and, Bool.and_true, Bool.false_and, Bool.and_false, Bool.true_or, Bool.false_or, Bool.or_true, Bool.or_false])
      cases o with
      | none => exact absurd h4 (by simpa using hno)
      | some v =>
        have hno : ¬ v < s := hno
        simp only [rdW, hno, if_false] at fin hmem
        rcases h5 with rfl | ⟨j, rfl⟩
        · (try simp only [wAll, frzS, wpLc, wipeS, zipS, enmS, OV.fz, reduceIte, List.getElem?_cons_zero, List.getElem?_cons_succ, List.set_cons_zero, List.set_cons_succ, Option.map_some, Option.map_none, if_true, if_false, Bool.false_eq_true, ite_true, ite_false, Bool.not_true, Bool.not_false, true_and, and_true, exists_eq_left, Bool.true_and, Bool.and_true, Bool.false_and, Bool.and_false, Bool.true_or, Bool.false_or, Bool.or_true, Bool.or_false])
          simp only [decide_true, if_true]
          simp only [show isRefuse (.str "refuse") = true from rfl, if_true] at hmem
          unfold ansD at h
          rw [if_pos hmem] at h
          exact h
        · simp only [o_eqis]
          (try simp only [wAll, frzS, wpLc, wipeS, zipS, enmS, OV.fz, reduceIte, List.getElem?_cons_zero, List.getElem?_cons_succ, List.set_cons_zero, List.set_cons_succ, Option.map_some, Option.map_none, if_true, if_false, Bool.false_eq_true, ite_true, ite_false, Bool.not_true, Bool.not_false, true_and, and_true, exists_eq_left, Bool.true_and, Bool.and_true, Bool.false_and, Bool.and_false, Bool.true_or, Bool.false_or, Bool.or_true, Bool.or_false])
          exact fin j rfl v
    · have hyes : o.getD d < s := by omega
      simp only [hs, hyes, decide_true, decide_false]
      (try simp only [wAll, frzS, wpLc, wipeS, zipS, enmS, OV.fz, reduceIte, List.getElem?_cons_zero, List.getElem?_cons_succ, List.set_cons_zero, List.set_cons_succ, Option.map_some, Option.map_none, if_true, if_false, Bool.false_eq_true, ite_true, ite_false, Bool.not_true, Bool.not_false, true_and, and_true, exists_eq_left, Bool.true_and, Bool.and_true, Bool.false_and, Bool.and_false, Bool.true_or, Bool.false_or, Bool.or_true, Bool.or_false])
      refine fin _ ?_ _
      cases o with
      | none => rfl
      | some v =>
        have hyes : v < s := hyes
        simp only [rdW, hyes, if_true]
        rfl
  · rintro sl S' ⟨rfl, hn, t4, t5, t6, t7, t8, rfl⟩
    (try simp only [wAll, frzS, wpLc, wipeS, zipS, enmS, OV.fz, reduceIte, List.getElem?_cons_zero, List.getElem?_cons_succ, List.set_cons_zero, List.set_cons_succ, Option.map_some, Option.map_none, if_true, if_false, Bool.false_eq_true, ite_true, ite_false, Bool.not_true, Bool.not_false, true_and, and_true, exists_eq_left, Bool.true_and, Bool.and_true, Bool.false_and, Bool.and_false, Bool.true_or, Bool.false_or, Bool.or_true, Bool.or_false])
    rw [List.take_length] at hn ⊢
    unfold ansD at h
    rw [if_neg hn] at h
    exact h

theorem eqvAll_oI : ∀ vs : List (Option Int), PyData.eqvAll (vs.map oI) (vs.map oI) = true
  | [] => by simp [PyData.eqvAll]
  | none :: vs => by simp [PyData.eqvAll, eqvAll_oI vs, oI, PyData.eqv]
  | some i :: vs => by simp [PyData.eqvAll, eqvAll_oI vs, oI, PyData.eqv]
theorem depthAll_oI : ∀ vs : List (Option Int), PyData.depthAll (vs.map oI) = 0
  | [] => by simp [PyData.depthAll]
  | none :: vs => by simp [PyData.depthAll, depthAll_oI vs, oI, PyData.depth]
  | some i :: vs => by simp [PyData.depthAll, depthAll_oI vs, oI, PyData.depth]
theorem o_nesame {d : PyData} (h : PyData.depth d ≤ 64) (e : PyData.eqv d d = true) : copS .ne (.sv (.val d)) (.sv (.val d)) = some false := by
  show Option.map (fun x => !x) (if min (PyData.depth d) (PyData.depth d) ≤ 64 then some (dIs d d) else none) = _
  rw [if_pos (by omega)]
  show some (!(PyData.eqv d d)) = _
  rw [e]; rfl
theorem o_netup {vs : List (Option Int)} : copS .ne (.sv (.val (.tuple (vs.map oI)))) (.sv (.val (.tuple (vs.map oI)))) = some false :=
  o_nesame (by simp [PyData.depth, depthAll_oI]) (by simp [PyData.eqv, eqvAll_oI])
theorem o_neans {vs : List (Option Int)} : copS .ne (.sv (.val (ansD vs))) (.sv (.val (ansD vs))) = some false := by
  unfold ansD
  split
  · exact o_nesame (by simp [PyData.depth]) (by simp [PyData.eqv])
  · exact o_netup
theorem strsD_map (xs : List Str) : strsD (xs.map .str) = some xs := by
  induction xs with
  | nil => rfl
  | cons x r ih => show (strsD (r.map .str)).map _ = _; rw [ih]; rfl
theorem o_sset {xs : List Str} (h : xs.length ≤ 1000) : ssetS (.new (.lst (xs.map .str))) = some (.new (.lst ((sortS (uniqS xs)).map .str))) := by
  show (match strsD (xs.map .str) with | some xs => if xs.length ≤ 1000 then some (RV.new (.lst (sortD ((uniqS xs).map .str)))) else none | none => none) = _
  rw [strsD_map]
  dsimp only
  rw [if_pos h, sortD_strs]
theorem fsts_rec (ps : List (Str × Int)) : fsts (recD ps) = ps.map (·.1) := by
  unfold fsts recD
  rw [List.map_map]; rfl
theorem isRec_of {ps : List (Str × Int)} {zs : List Str} (hs : (ps.map (·.1)).Sublist zs) (ha : asc zs = true) (hz : zs.length ≤ 8) (hn : ∀ x ∈ zs, isNm (.str x) = true) (hv : ∀ p ∈ ps, 0 ≤ p.2 ∧ p.2 ≤ 3) : isRec (.tuple (recD ps)) = true := by
  unfold isRec
  have hl : ps.length ≤ 8 := by
    have := hs.length_le
    rw [List.length_map] at this
    omega
  simp only [Bool.and_eq_true]
  refine ⟨?_, ?_, ?_⟩
  · simp only [isRow, recD, List.length_map, Bool.and_eq_true, decide_eq_true_eq]
    omega
  · rw [List.all_eq_true]
    intro e he
    obtain ⟨p, hp, rfl⟩ := List.mem_map.mp he
    have := hn p.1 (hs.mem (List.mem_map.mpr ⟨p, hp, rfl⟩))
    have := hv p hp
    unfold isEntry
    simp only [Bool.and_eq_true]
    refine ⟨rfl, by assumption, ?_⟩
    show isInt (.int p.2) 0 3 = true
    simp only [isInt, Bool.and_eq_true, decide_eq_true_eq]
    omega
  · show asc (fsts (recD ps)) = true
    rw [fsts_rec]
    exact asc_sub ha hs

theorem fam_in {n : Nat} {eds : List PyData} (h : famOk n eds) : (∀ e ∈ eds, isEd e = true) ∧ eds ≠ [] ∧ eds.length = n := by
  obtain ⟨hl, els, fs, m, qs, sw, rfl, he, hc⟩ := h
  refine ⟨fun e h => ?_, by simp, hl⟩
  rcases List.mem_append.mp h with q | q
  · obtain ⟨_, _, _, _, rfl, h2, _⟩ := hc e q
    exact h2
  · rw [List.mem_singleton] at q
    rw [q]; exact he
theorem flds_nm {fs : List PyData} (h : ∀ f ∈ fs, isField f = true) : ∀ x ∈ fsts fs, isNm (.str x) = true := by
  intro x hx
  obtain ⟨f, hf, rfl⟩ := List.mem_map.mp hx
  obtain ⟨y, s, d, w, rfl, h1, _⟩ := field_parts (h f hf)
  exact h1
theorem flds_strs {fs : List PyData} (h : ∀ f ∈ fs, isField f = true) : fs.map (fun f => itm f 0) = (fsts fs).map .str := by
  unfold fsts
  rw [List.map_map]
  apply List.map_congr_left
  intro f hf
  obtain ⟨y, s, d, w, rfl, h1, _⟩ := field_parts (h f hf)
  rfl
theorem vals3_nil (fs : List PyData) : ansD (vals3 (stOf []) fs) = .tuple (fs.map fun f => .int (intOf (itm f 2))) := by
  have e : vals3 (stOf []) fs = fs.map fun f => some (intOf (itm f 2)) := rfl
  unfold ansD
  rw [e, if_neg (by simp), List.map_map]
  rfl
theorem ints_oI (fs : List PyData) : (fs.map fun f => PyData.int (intOf (itm f 2))) = (fs.map fun f => some (intOf (itm f 2))).map oI := by
  rw [List.map_map]; rfl
theorem b20t {k r : Nat} {ds : List PyData} {S : Store} {Q : SV → Store → Prop} (hb : Bag S r) (hn : ds ≠ []) (hl : ds.length < 1073741824) (h : ∀ d ∈ ds, ∀ S', Bag S' r → Q (.val d) S') : WP (C (k + 2) 20 [.cell r, .val (.tuple ds)] S) Q := by
  rw [u20]
  (try simp only [wAll, wpLc, wipeS, zipS, enmS, OV.fz, reduceIte, List.getElem?_cons_zero, List.getElem?_cons_succ, List.set_cons_zero, List.set_cons_succ, Option.map_some, Option.map_none, if_true, if_false, Bool.false_eq_true, ite_true, ite_false, Bool.not_true, Bool.not_false, true_and, and_true, exists_eq_left, Bool.true_and, Bool.and_true, Bool.false_and, Bool.and_false, Bool.true_or, Bool.false_or, Bool.or_true, Bool.or_false])
  have : 0 < ds.length := List.length_pos_iff.mpr hn
  refine b19 hb (by omega) (by omega) fun z S' hb' h0 h1 => ?_
  (try simp only [wAll, wpLc, wipeS, zipS, enmS, OV.fz, reduceIte, List.getElem?_cons_zero, List.getElem?_cons_succ, List.set_cons_zero, List.set_cons_succ, Option.map_some, Option.map_none, if_true, if_false, Bool.false_eq_true, ite_true, ite_false, Bool.not_true, Bool.not_false, true_and, and_true, exists_eq_left, Bool.true_and, Bool.and_true, Bool.false_and, Bool.and_false, Bool.true_or, Bool.false_or, Bool.or_true, Bool.or_false])
  rw [atI_get (i := z) (j := z.toNat) (by omega) (by omega)]
  (try simp only [wAll, wpLc, wipeS, zipS, enmS, OV.fz, reduceIte, List.getElem?_cons_zero, List.getElem?_cons_succ, List.set_cons_zero, List.set_cons_succ, Option.map_some, Option.map_none, if_true, if_false, Bool.false_eq_true, ite_true, ite_false, Bool.not_true, Bool.not_false, true_and, and_true, exists_eq_left, Bool.true_and, Bool.and_true, Bool.false_and, Bool.and_false, Bool.true_or, Bool.false_or, Bool.or_true, Bool.or_false])
  refine h _ ?_ S' hb'
  rw [List.getD_eq_getElem?_getD, List.getElem?_eq_getElem (by omega)]
  exact List.getElem_mem _
def fsC : List PyData := [.tuple [.str "n", .int 2, .int 1, .str "refuse"], .tuple [.str "tag", .int 3, .int 0, .int 2]]
def restC : List PyData := [.str "part", .tuple [.tuple [.str "show", .int 1, .tuple []]], .tuple []]
theorem edC : isEd (.tuple (.tuple fsC :: restC)) = true := by decide +kernel
theorem tailA {ps : List (Str × Int)} {d : PyData} {S : Store} {Q : SV → Store → Prop} (hr : isRec (.tuple (recD ps)) = true) (hp : ∀ p ∈ ps, 0 ≤ p.2) (e : ansD (vals3 (stOf ps) fsC) = d) : WP (C 39 65 [.val (.tuple (.tuple fsC :: restC)), .val (.tuple (recD ps))] S) Q ↔ Q (.val d) S := by
  have hf : ∀ f ∈ fsC, isField f = true := by
    have : fsC.all isField = true := by decide +kernel
    exact List.all_eq_true.mp this
  rw [s65 (k := 30) edC hf hr hp, e]
theorem tail0 {S : Store} {Q : SV → Store → Prop} : WP (C 39 65 [.val (.tuple (.tuple [.tuple [.str "n", .int 2, .int 1, .str "refuse"], .tuple [.str "tag", .int 3, .int 0, .int 2]] :: [.str "part", .tuple [.tuple [.str "show", .int 1, .tuple []]], .tuple []])), .val (.tuple [])] S) Q ↔ Q (.val (.tuple [.int 1, .int 0])) S :=
  tailA (ps := []) (by decide +kernel) (fun _ h => absurd h List.not_mem_nil) (by kernel_rfl)
theorem tail1 {S : Store} {Q : SV → Store → Prop} : WP (C 39 65 [.val (.tuple (.tuple [.tuple [.str "n", .int 2, .int 1, .str "refuse"], .tuple [.str "tag", .int 3, .int 0, .int 2]] :: [.str "part", .tuple [.tuple [.str "show", .int 1, .tuple []]], .tuple []])), .val (.tuple [.tuple [.str "n", .int 0], .tuple [.str "tag", .int 3]])] S) Q ↔ Q (.val (.tuple [.int 0, .int 2])) S :=
  tailA (ps := [("n", 0), ("tag", 3)]) (by decide +kernel) (by decide) (by kernel_rfl)
theorem tail2 {S : Store} {Q : SV → Store → Prop} : WP (C 39 65 [.val (.tuple (.tuple [.tuple [.str "n", .int 2, .int 1, .str "refuse"], .tuple [.str "tag", .int 3, .int 0, .int 2]] :: [.str "part", .tuple [.tuple [.str "show", .int 1, .tuple []]], .tuple []])), .val (.tuple [.tuple [.str "n", .int 2]])] S) Q ↔ Q (.val .none) S :=
  tailA (ps := [("n", 2)]) (by decide +kernel) (by decide) (by kernel_rfl)
theorem tailX : copS .eq (.sv (.val (.list [.tuple [.int 1, .int 0], .tuple [.int 0, .int 2], .none]))) (.new (.lst [.tuple [.int 1, .int 0], .tuple [.int 0, .int 2], .none])) = some true := by kernel_rfl
theorem law_run (ns : List Int) (h : ns.length ≤ 63) : ∃ S', DL.run ds cs 4096 40 68 [SV.scr ns] [] = some (SV.val (.bool true), S') := by
  have main : WP (C (39 + 1) 68 [SV.scr ns] []) fun v S => v = .val (.bool true) := by
    rw [u68]
    generalize hT : (Sms.cons (.asg (.nm 4) (.tup _)) _) = T
    (try simp only [wAll, frzS, wpLc, wipeS, zipS, enmS, OV.fz, reduceIte, List.getElem?_cons_zero, List.getElem?_cons_succ, List.set_cons_zero, List.set_cons_succ, Option.map_some, Option.map_none, if_true, if_false, Bool.false_eq_true, ite_true, ite_false, Bool.not_true, Bool.not_false, true_and, and_true, exists_eq_left, Bool.true_and, Bool.and_true, Bool.false_and, Bool.and_false, Bool.true_or, Bool.false_or, Bool.or_true, Bool.or_false])
    have hm : ∃ n : Nat, (if (if ((ns.length : Int) + 3) < 10 then ((ns.length : Int) + 3) else 10) > 4 then (if ((ns.length : Int) + 3) < 10 then ((ns.length : Int) + 3) else 10) else 4) = (n : Int) ∧ n ≤ 10 := by
      split <;> split <;> first
        | exact ⟨10, rfl, by omega⟩
        | exact ⟨4, rfl, by omega⟩
        | exact ⟨ns.length + 3, by omega, by omega⟩
    obtain ⟨n, hn, hn10⟩ := hm
    rw [hn]
    refine ⟨⟨by omega, by omega⟩, ?_⟩
    have hrl : (rngD 0 (n : Int).toNat).length = n := by simp [rngD]
    refine forGo_inv (fun i sl S => ∃ t1 t2 t3 t4 t5 t6 t7 t8 t9 t10, sl = [some (.scr ns), t1, t2, t3, t4, t5, t6, t7, t8, t9, t10]) ?_ ?_ ?_
    · exact ⟨_, _, _, _, _, _, _, _, _, _, rfl⟩
    · rintro i e sl S he ⟨t1, t2, t3, t4, t5, t6, t7, t8, t9, t10, rfl⟩
      have hi : i < n := by rw [← hrl]; exact (List.getElem?_eq_some_iff.mp he).1
      have ee : e = .int (i : Int) := by
        unfold rngD at he
        rw [List.getElem?_map, List.getElem?_range (by simp; omega)] at he
        cases he
        simp
      subst ee
      rw [s_forB]
      generalize hT2 : (Sms.cons (.forr (.nm 7) _ _) _) = T2
      (try simp only [wAll, frzS, wpLc, wipeS, zipS, enmS, OV.fz, reduceIte, List.getElem?_cons_zero, List.getElem?_cons_succ, List.set_cons_zero, List.set_cons_succ, Option.map_some, Option.map_none, if_true, if_false, Bool.false_eq_true, ite_true, ite_false, Bool.not_true, Bool.not_false, true_and, and_true, exists_eq_left, Bool.true_and, Bool.and_true, Bool.false_and, Bool.and_false, Bool.true_or, Bool.false_or, Bool.or_true, Bool.or_false])
      refine b18 (k := 38) (by omega) (by omega) fun r S1 hb1 => ?_
      (try simp only [wAll, frzS, wpLc, wipeS, zipS, enmS, OV.fz, reduceIte, List.getElem?_cons_zero, List.getElem?_cons_succ, List.set_cons_zero, List.set_cons_succ, Option.map_some, Option.map_none, if_true, if_false, Bool.false_eq_true, ite_true, ite_false, Bool.not_true, Bool.not_false, true_and, and_true, exists_eq_left, Bool.true_and, Bool.and_true, Bool.false_and, Bool.and_false, Bool.true_or, Bool.false_or, Bool.or_true, Bool.or_false])
      refine b21 (k := 36) hb1 fun xs S2 hb2 hxs => ?_
      obtain ⟨x4, xn, xm⟩ := pool_parts hxs
      (try simp only [wAll, frzS, wpLc, wipeS, zipS, enmS, OV.fz, reduceIte, List.getElem?_cons_zero, List.getElem?_cons_succ, List.set_cons_zero, List.set_cons_succ, Option.map_some, Option.map_none, if_true, if_false, Bool.false_eq_true, ite_true, ite_false, Bool.not_true, Bool.not_false, true_and, and_true, exists_eq_left, Bool.true_and, Bool.and_true, Bool.false_and, Bool.and_false, Bool.true_or, Bool.false_or, Bool.or_true, Bool.or_false])
      refine b19 (k := 38) hb2 (by decide) (by decide) fun z S3 hb3 hz0 hz1 => ?_
      (try simp only [wAll, frzS, wpLc, wipeS, zipS, enmS, OV.fz, reduceIte, List.getElem?_cons_zero, List.getElem?_cons_succ, List.set_cons_zero, List.set_cons_succ, Option.map_some, Option.map_none, if_true, if_false, Bool.false_eq_true, ite_true, ite_false, Bool.not_true, Bool.not_false, true_and, and_true, exists_eq_left, Bool.true_and, Bool.and_true, Bool.false_and, Bool.and_false, Bool.true_or, Bool.false_or, Bool.or_true, Bool.or_false])
      refine b31 (k := 32) hb3 (by decide) (by decide) (by omega) (by omega) fun eds S4 hb4 hfam => ?_
      obtain ⟨hall, hne, hlen⟩ := fam_in hfam
      (try simp only [wAll, frzS, wpLc, wipeS, zipS, enmS, OV.fz, reduceIte, List.getElem?_cons_zero, List.getElem?_cons_succ, List.set_cons_zero, List.set_cons_succ, Option.map_some, Option.map_none, if_true, if_false, Bool.false_eq_true, ite_true, ite_false, Bool.not_true, Bool.not_false, true_and, and_true, exists_eq_left, Bool.true_and, Bool.and_true, Bool.false_and, Bool.and_false, Bool.true_or, Bool.false_or, Bool.or_true, Bool.or_false])
      refine b20t (k := 37) hb4 hne (by omega) fun ed hed S5 hb5 => ?_
      have hE := hall ed hed
      obtain ⟨fs, rest, rfl, hf, hasc, hl1, hl3⟩ := ed_shape hE
      clear hfam hall hed hne hlen
      (try simp only [wAll, frzS, wpLc, wipeS, zipS, enmS, OV.fz, reduceIte, List.getElem?_cons_zero, List.getElem?_cons_succ, List.set_cons_zero, List.set_cons_succ, Option.map_some, Option.map_none, if_true, if_false, Bool.false_eq_true, ite_true, ite_false, Bool.not_true, Bool.not_false, true_and, and_true, exists_eq_left, Bool.true_and, Bool.and_true, Bool.false_and, Bool.and_false, Bool.true_or, Bool.false_or, Bool.or_true, Bool.or_false])
      rw [atI_get (i := 0) (j := 0) rfl (by simp)]
      (try simp only [wAll, frzS, wpLc, wipeS, zipS, enmS, OV.fz, reduceIte, List.getElem?_cons_zero, List.getElem?_cons_succ, List.set_cons_zero, List.set_cons_succ, Option.map_some, Option.map_none, if_true, if_false, Bool.false_eq_true, ite_true, ite_false, Bool.not_true, Bool.not_false, true_and, and_true, exists_eq_left, Bool.true_and, Bool.and_true, Bool.false_and, Bool.and_false, Bool.true_or, Bool.false_or, Bool.or_true, Bool.or_false])
      rw [show (PyData.tuple fs :: rest).getD 0 .none = .tuple fs from rfl, o_seqt, op1_some, lc_map (fun f => itm f 0) fun f hm => ?own]
      case own =>
        obtain ⟨x, s, d, w, rfl, _⟩ := field_rows (hf f hm)
        (try simp only [wAll, frzS, wpLc, wipeS, zipS, enmS, OV.fz, reduceIte, List.getElem?_cons_zero, List.getElem?_cons_succ, List.set_cons_zero, List.set_cons_succ, Option.map_some, Option.map_none, if_true, if_false, Bool.false_eq_true, ite_true, ite_false, Bool.not_true, Bool.not_false, true_and, and_true, exists_eq_left, Bool.true_and, Bool.and_true, Bool.false_and, Bool.and_false, Bool.true_or, Bool.false_or, Bool.or_true, Bool.or_false])
        rw [atI_get (i := 0) (j := 0) rfl (by simp)]
        (try simp only [wAll, frzS, wpLc, wipeS, zipS, enmS, OV.fz, reduceIte, List.getElem?_cons_zero, List.getElem?_cons_succ, List.set_cons_zero, List.set_cons_succ, Option.map_some, Option.map_none, if_true, if_false, Bool.false_eq_true, ite_true, ite_false, Bool.not_true, Bool.not_false, true_and, and_true, exists_eq_left, Bool.true_and, Bool.and_true, Bool.false_and, Bool.and_false, Bool.true_or, Bool.false_or, Bool.or_true, Bool.or_false])
        rfl
      rw [flds_strs hf]
      (try simp only [wAll, frzS, wpLc, wipeS, zipS, enmS, OV.fz, reduceIte, List.getElem?_cons_zero, List.getElem?_cons_succ, List.set_cons_zero, List.set_cons_succ, Option.map_some, Option.map_none, if_true, if_false, Bool.false_eq_true, ite_true, ite_false, Bool.not_true, Bool.not_false, true_and, and_true, exists_eq_left, Bool.true_and, Bool.and_true, Bool.false_and, Bool.and_false, Bool.true_or, Bool.false_or, Bool.or_true, Bool.or_false])
      rw [s66 (k := 30) hE hf]
      (try simp only [wAll, frzS, wpLc, wipeS, zipS, enmS, OV.fz, reduceIte, List.getElem?_cons_zero, List.getElem?_cons_succ, List.set_cons_zero, List.set_cons_succ, Option.map_some, Option.map_none, if_true, if_false, Bool.false_eq_true, ite_true, ite_false, Bool.not_true, Bool.not_false, true_and, and_true, exists_eq_left, Bool.true_and, Bool.and_true, Bool.false_and, Bool.and_false, Bool.true_or, Bool.false_or, Bool.or_true, Bool.or_false])
      rw [lc_map (fun f => .int (intOf (itm f 2))) fun f hm => ?dfl]
      case dfl =>
        obtain ⟨x, s, d, w, rfl, _⟩ := field_rows (hf f hm)
        (try simp only [wAll, frzS, wpLc, wipeS, zipS, enmS, OV.fz, reduceIte, List.getElem?_cons_zero, List.getElem?_cons_succ, List.set_cons_zero, List.set_cons_succ, Option.map_some, Option.map_none, if_true, if_false, Bool.false_eq_true, ite_true, ite_false, Bool.not_true, Bool.not_false, true_and, and_true, exists_eq_left, Bool.true_and, Bool.and_true, Bool.false_and, Bool.and_false, Bool.true_or, Bool.false_or, Bool.or_true, Bool.or_false])
        rw [atI_get (i := 2) (j := 2) rfl (by simp)]
        (try simp only [wAll, frzS, wpLc, wipeS, zipS, enmS, OV.fz, reduceIte, List.getElem?_cons_zero, List.getElem?_cons_succ, List.set_cons_zero, List.set_cons_succ, Option.map_some, Option.map_none, if_true, if_false, Bool.false_eq_true, ite_true, ite_false, Bool.not_true, Bool.not_false, true_and, and_true, exists_eq_left, Bool.true_and, Bool.and_true, Bool.false_and, Bool.and_false, Bool.true_or, Bool.false_or, Bool.or_true, Bool.or_false])
        rfl
      (try simp only [wAll, frzS, wpLc, wipeS, zipS, enmS, OV.fz, reduceIte, List.getElem?_cons_zero, List.getElem?_cons_succ, List.set_cons_zero, List.set_cons_succ, Option.map_some, Option.map_none, if_true, if_false, Bool.false_eq_true, ite_true, ite_false, Bool.not_true, Bool.not_false, true_and, and_true, exists_eq_left, Bool.true_and, Bool.and_true, Bool.false_and, Bool.and_false, Bool.true_or, Bool.false_or, Bool.or_true, Bool.or_false])
      rw [ints_oI, o_netup]
      (try simp only [wAll, frzS, wpLc, wipeS, zipS, enmS, OV.fz, reduceIte, List.getElem?_cons_zero, List.getElem?_cons_succ, List.set_cons_zero, List.set_cons_succ, Option.map_some, Option.map_none, if_true, if_false, Bool.false_eq_true, ite_true, ite_false, Bool.not_true, Bool.not_false, true_and, and_true, exists_eq_left, Bool.true_and, Bool.and_true, Bool.false_and, Bool.and_false, Bool.true_or, Bool.false_or, Bool.or_true, Bool.or_false])
      rw [← hT2]
      clear hT2 hT
      (try simp only [wAll, frzS, wpLc, wipeS, zipS, enmS, OV.fz, reduceIte, List.getElem?_cons_zero, List.getElem?_cons_succ, List.set_cons_zero, List.set_cons_succ, Option.map_some, Option.map_none, if_true, if_false, Bool.false_eq_true, ite_true, ite_false, Bool.not_true, Bool.not_false, true_and, and_true, exists_eq_left, Bool.true_and, Bool.and_true, Bool.false_and, Bool.and_false, Bool.true_or, Bool.false_or, Bool.or_true, Bool.or_false])
      refine ⟨by decide, ?_⟩
      refine forGo_inv (fun _j sl S => Bag S r ∧ ∃ t6 t7 t8 t9 t10, sl = [some (.scr ns), some (.val (.int (i : Int))), some (.cell r), some (.val (.list (xs.map .str))), some (.val (.tuple (.tuple fs :: rest))), some (.val (.list ((fsts fs).map .str))), t6, t7, t8, t9, t10]) ?_ ?_ ?_
      · exact ⟨hb5, _, _, _, _, _, rfl⟩
      · rintro j e sl S6 _ ⟨hb6, t6, t7, t8, t9, t10, rfl⟩
        have hlf : (fsts fs).length = fs.length := by unfold fsts; rw [List.length_map]
        rw [s_forB]
        (try simp only [wAll, frzS, wpLc, wipeS, zipS, enmS, OV.fz, reduceIte, List.getElem?_cons_zero, List.getElem?_cons_succ, List.set_cons_zero, List.set_cons_succ, Option.map_some, Option.map_none, if_true, if_false, Bool.false_eq_true, ite_true, ite_false, Bool.not_true, Bool.not_false, true_and, and_true, exists_eq_left, Bool.true_and, Bool.and_true, Bool.false_and, Bool.and_false, Bool.true_or, Bool.false_or, Bool.or_true, Bool.or_false])
        rw [o_addll]
        (try simp only [wAll, frzS, wpLc, wipeS, zipS, enmS, OV.fz, reduceIte, List.getElem?_cons_zero, List.getElem?_cons_succ, List.set_cons_zero, List.set_cons_succ, Option.map_some, Option.map_none, if_true, if_false, Bool.false_eq_true, ite_true, ite_false, Bool.not_true, Bool.not_false, true_and, and_true, exists_eq_left, Bool.true_and, Bool.and_true, Bool.false_and, Bool.and_false, Bool.true_or, Bool.false_or, Bool.or_true, Bool.or_false])
        refine ⟨by simp; show _ ≤ 16777216; omega, ?_⟩
        rw [o_addnn]
        (try simp only [wAll, frzS, wpLc, wipeS, zipS, enmS, OV.fz, reduceIte, List.getElem?_cons_zero, List.getElem?_cons_succ, List.set_cons_zero, List.set_cons_succ, Option.map_some, Option.map_none, if_true, if_false, Bool.false_eq_true, ite_true, ite_false, Bool.not_true, Bool.not_false, true_and, and_true, exists_eq_left, Bool.true_and, Bool.and_true, Bool.false_and, Bool.and_false, Bool.true_or, Bool.false_or, Bool.or_true, Bool.or_false])
        refine ⟨by simp; show _ ≤ 16777216; omega, ?_⟩
        rw [show ((fsts fs).map PyData.str ++ xs.map PyData.str ++ [PyData.str "other"]) = ((fsts fs ++ xs ++ [("other" : Str)]).map .str) from by simp, o_sset (by simp; omega)]
        (try simp only [wAll, frzS, wpLc, wipeS, zipS, enmS, OV.fz, reduceIte, List.getElem?_cons_zero, List.getElem?_cons_succ, List.set_cons_zero, List.set_cons_succ, Option.map_some, Option.map_none, if_true, if_false, Bool.false_eq_true, ite_true, ite_false, Bool.not_true, Bool.not_false, true_and, and_true, exists_eq_left, Bool.true_and, Bool.and_true, Bool.false_and, Bool.and_false, Bool.true_or, Bool.false_or, Bool.or_true, Bool.or_false])
        have hall : ∀ x ∈ fsts fs ++ xs ++ [("other" : Str)], isNm (.str x) = true := by
          intro x hx
          rcases List.mem_append.mp hx with hx | hx
          · rcases List.mem_append.mp hx with hx | hx
            · exact flds_nm hf x hx
            · exact xm x hx
          · rw [List.mem_singleton] at hx
            subst hx
            decide +kernel
        have hlen : (fsts fs ++ xs ++ [("other" : Str)]).length ≤ 8 := by simp; omega
        generalize (fsts fs ++ xs ++ [("other" : Str)]) = us at hall hlen
        have hza : asc (sortS (uniqS us)) = true := asc_sort (nodup_uniqS us)
        have hzl : (sortS (uniqS us)).length ≤ 8 := by
          rw [(sortS_perm _).length_eq]
          exact Nat.le_trans (len_uniqS us) hlen
        have hzn : ∀ x ∈ sortS (uniqS us), isNm (.str x) = true := fun x hx => hall x (mem_uniqS.mp ((sortS_perm _).mem_iff.mp hx))
        generalize sortS (uniqS us) = zs at hza hzl hzn
        refine lc_inv (fun i ys S => Bag S r ∧ ∃ ps : List (Str × Int), ys = recD ps ∧ (ps.map (·.1)).Sublist (zs.take i) ∧ ∀ p ∈ ps, 0 ≤ p.2 ∧ p.2 ≤ 3) ⟨hb6, [], rfl, List.Sublist.slnil, fun _ h => nomatch h⟩ ?_ ?_
        · rintro j2 e2 ys S7 he2 ⟨hb7, ps, rfl, hsub, hps⟩
          rw [List.getElem?_map] at he2
          obtain ⟨x, hxi, rfl⟩ := Option.map_eq_some_iff.mp he2
          have htk : zs.take (j2 + 1) = zs.take j2 ++ [x] := by rw [List.take_succ, hxi]; rfl
          (try simp only [wAll, frzS, wpLc, wipeS, zipS, enmS, OV.fz, reduceIte, List.getElem?_cons_zero, List.getElem?_cons_succ, List.set_cons_zero, List.set_cons_succ, Option.map_some, Option.map_none, if_true, if_false, Bool.false_eq_true, ite_true, ite_false, Bool.not_true, Bool.not_false, true_and, and_true, exists_eq_left, Bool.true_and, Bool.and_true, Bool.false_and, Bool.and_false, Bool.true_or, Bool.false_or, Bool.or_true, Bool.or_false])
          refine b19 (k := 38) hb7 (by decide) (by decide) fun z S8 hb8 _ _ => ?_
          (try simp only [wAll, frzS, wpLc, wipeS, zipS, enmS, OV.fz, reduceIte, List.getElem?_cons_zero, List.getElem?_cons_succ, List.set_cons_zero, List.set_cons_succ, Option.map_some, Option.map_none, if_true, if_false, Bool.false_eq_true, ite_true, ite_false, Bool.not_true, Bool.not_false, true_and, and_true, exists_eq_left, Bool.true_and, Bool.and_true, Bool.false_and, Bool.and_false, Bool.true_or, Bool.false_or, Bool.or_true, Bool.or_false])
          split
          · refine b19 (k := 38) hb8 (by decide) (by decide) fun z2 S9 hb9 q0 q1 => ?_
            (try simp only [wAll, frzS, wpLc, wipeS, zipS, enmS, OV.fz, reduceIte, List.getElem?_cons_zero, List.getElem?_cons_succ, List.set_cons_zero, List.set_cons_succ, Option.map_some, Option.map_none, if_true, if_false, Bool.false_eq_true, ite_true, ite_false, Bool.not_true, Bool.not_false, true_and, and_true, exists_eq_left, Bool.true_and, Bool.and_true, Bool.false_and, Bool.and_false, Bool.true_or, Bool.false_or, Bool.or_true, Bool.or_false])
            refine ⟨hb9, ps ++ [(x, z2)], ?_, ?_, ?_⟩
            · unfold recD; rw [List.map_append]; rfl
            · rw [htk, List.map_append]
              exact hsub.append (List.Sublist.refl _)
            · intro p hp
              rcases List.mem_append.mp hp with q | q
              · exact hps p q
              · rw [List.mem_singleton] at q
                subst q
                exact ⟨q0, by show z2 ≤ 3; omega⟩
          · refine ⟨hb8, ps, rfl, ?_, hps⟩
            rw [htk]
            exact hsub.trans (List.sublist_append_left _ _)
        · rintro ys S7 ⟨hb7, ps, rfl, hsub, hps⟩
          have hrec := isRec_of (hsub.trans (List.take_sublist _ _)) hza hzl hzn hps
          have hp0 : ∀ p ∈ ps, 0 ≤ p.2 := fun p hp => (hps p hp).1
          (try simp only [wAll, frzS, wpLc, wipeS, zipS, enmS, OV.fz, reduceIte, List.getElem?_cons_zero, List.getElem?_cons_succ, List.set_cons_zero, List.set_cons_succ, Option.map_some, Option.map_none, if_true, if_false, Bool.false_eq_true, ite_true, ite_false, Bool.not_true, Bool.not_false, true_and, and_true, exists_eq_left, Bool.true_and, Bool.and_true, Bool.false_and, Bool.and_false, Bool.true_or, Bool.false_or, Bool.or_true, Bool.or_false])
          rw [s65 (k := 30) hE hf hrec hp0]
          (try simp only [wAll, frzS, wpLc, wipeS, zipS, enmS, OV.fz, reduceIte, List.getElem?_cons_zero, List.getElem?_cons_succ, List.set_cons_zero, List.set_cons_succ, Option.map_some, Option.map_none, if_true, if_false, Bool.false_eq_true, ite_true, ite_false, Bool.not_true, Bool.not_false, true_and, and_true, exists_eq_left, Bool.true_and, Bool.and_true, Bool.false_and, Bool.and_false, Bool.true_or, Bool.false_or, Bool.or_true, Bool.or_false])
          refine s67 (k := 38) hf hl3 hp0 ?_
          (try simp only [wAll, frzS, wpLc, wipeS, zipS, enmS, OV.fz, reduceIte, List.getElem?_cons_zero, List.getElem?_cons_succ, List.set_cons_zero, List.set_cons_succ, Option.map_some, Option.map_none, if_true, if_false, Bool.false_eq_true, ite_true, ite_false, Bool.not_true, Bool.not_false, true_and, and_true, exists_eq_left, Bool.true_and, Bool.and_true, Bool.false_and, Bool.and_false, Bool.true_or, Bool.false_or, Bool.or_true, Bool.or_false])
          rw [o_neans]
          (try simp only [wAll, frzS, wpLc, wipeS, zipS, enmS, OV.fz, reduceIte, List.getElem?_cons_zero, List.getElem?_cons_succ, List.set_cons_zero, List.set_cons_succ, Option.map_some, Option.map_none, if_true, if_false, Bool.false_eq_true, ite_true, ite_false, Bool.not_true, Bool.not_false, true_and, and_true, exists_eq_left, Bool.true_and, Bool.and_true, Bool.false_and, Bool.and_false, Bool.true_or, Bool.false_or, Bool.or_true, Bool.or_false])
          exact ⟨hb7, _, _, _, _, _, rfl⟩
      · rintro sl S6 ⟨hb6, t6, t7, t8, t9, t10, rfl⟩
        (try simp only [wAll, frzS, wpLc, wipeS, zipS, enmS, OV.fz, reduceIte, List.getElem?_cons_zero, List.getElem?_cons_succ, List.set_cons_zero, List.set_cons_succ, Option.map_some, Option.map_none, if_true, if_false, Bool.false_eq_true, ite_true, ite_false, Bool.not_true, Bool.not_false, true_and, and_true, exists_eq_left, Bool.true_and, Bool.and_true, Bool.false_and, Bool.and_false, Bool.true_or, Bool.false_or, Bool.or_true, Bool.or_false])
        rw [show (PyData.tuple []) = .tuple (recD []) from rfl, s65 (k := 30) (ps := []) hE hf (by decide +kernel) (fun _ h => absurd h List.not_mem_nil)]
        (try simp only [wAll, frzS, wpLc, wipeS, zipS, enmS, OV.fz, reduceIte, List.getElem?_cons_zero, List.getElem?_cons_succ, List.set_cons_zero, List.set_cons_succ, Option.map_some, Option.map_none, if_true, if_false, Bool.false_eq_true, ite_true, ite_false, Bool.not_true, Bool.not_false, true_and, and_true, exists_eq_left, Bool.true_and, Bool.and_true, Bool.false_and, Bool.and_false, Bool.true_or, Bool.false_or, Bool.or_true, Bool.or_false])
        rw [s66 (k := 30) hE hf]
        (try simp only [wAll, frzS, wpLc, wipeS, zipS, enmS, OV.fz, reduceIte, List.getElem?_cons_zero, List.getElem?_cons_succ, List.set_cons_zero, List.set_cons_succ, Option.map_some, Option.map_none, if_true, if_false, Bool.false_eq_true, ite_true, ite_false, Bool.not_true, Bool.not_false, true_and, and_true, exists_eq_left, Bool.true_and, Bool.and_true, Bool.false_and, Bool.and_false, Bool.true_or, Bool.false_or, Bool.or_true, Bool.or_false])
        rw [vals3_nil, ints_oI, o_netup]
        (try simp only [wAll, frzS, wpLc, wipeS, zipS, enmS, OV.fz, reduceIte, List.getElem?_cons_zero, List.getElem?_cons_succ, List.set_cons_zero, List.set_cons_succ, Option.map_some, Option.map_none, if_true, if_false, Bool.false_eq_true, ite_true, ite_false, Bool.not_true, Bool.not_false, true_and, and_true, exists_eq_left, Bool.true_and, Bool.and_true, Bool.false_and, Bool.and_false, Bool.true_or, Bool.false_or, Bool.or_true, Bool.or_false])
        exact ⟨_, _, _, _, _, _, _, _, _, _, rfl⟩
    · rintro sl S ⟨t1, t2, t3, t4, t5, t6, t7, t8, t9, t10, rfl⟩
      show op1 (exSs _ _ _ T) _
      rw [← hT]
      (try simp only [wAll, frzS, wpLc, wipeS, zipS, enmS, OV.fz, reduceIte, List.getElem?_cons_zero, List.getElem?_cons_succ, List.set_cons_zero, List.set_cons_succ, Option.map_some, Option.map_none, if_true, if_false, Bool.false_eq_true, ite_true, ite_false, Bool.not_true, Bool.not_false, true_and, and_true, exists_eq_left, Bool.true_and, Bool.and_true, Bool.false_and, Bool.and_false, Bool.true_or, Bool.false_or, Bool.or_true, Bool.or_false])
      simp only [tail0, tail1, tail2]
      (try simp only [wAll, frzS, wpLc, wipeS, zipS, enmS, OV.fz, reduceIte, List.getElem?_cons_zero, List.getElem?_cons_succ, List.set_cons_zero, List.set_cons_succ, Option.map_some, Option.map_none, if_true, if_false, Bool.false_eq_true, ite_true, ite_false, Bool.not_true, Bool.not_false, true_and, and_true, exists_eq_left, Bool.true_and, Bool.and_true, Bool.false_and, Bool.and_false, Bool.true_or, Bool.false_or, Bool.or_true, Bool.or_false])
      simp only [tailX]
      (try simp only [wAll, frzS, wpLc, wipeS, zipS, enmS, OV.fz, reduceIte, List.getElem?_cons_zero, List.getElem?_cons_succ, List.set_cons_zero, List.set_cons_succ, Option.map_some, Option.map_none, if_true, if_false, Bool.false_eq_true, ite_true, ite_false, Bool.not_true, Bool.not_false, true_and, and_true, exists_eq_left, Bool.true_and, Bool.and_true, Bool.false_and, Bool.and_false, Bool.true_or, Bool.false_or, Bool.or_true, Bool.or_false])
  obtain ⟨v, S', e, rfl⟩ := main
  exact ⟨S', e⟩

end DL.Wk03

open PySem PySem.W PySem.Calls PyProof.Rows DL
theorem PySem.Challenge.cw_wayback_k03_views_of_records_holds : PySem.Challenge.rw_wayback_k03_views_of_records.Holds := by
  w_on; o_law
  refine HandSHeadRun.head_any (r := OpenLaw.row PySem.Challenge.rw_wayback_k03_views_of_records) (q := view (OpenLaw.row PySem.Challenge.rw_wayback_k03_views_of_records).prog [55]) (H := Wk03.hk) (ob := Wk03.ob) (M := 3000) (loose := Wk03.loose) (d := HandSHeadRun.topDef (OpenLaw.row PySem.Challenge.rw_wayback_k03_views_of_records).prog 55) (kwd := []) Wk03.ob_eq
    (by kernel_rfl) (fun s => by kernel_rfl) Wk03.run (by kernel_rfl) (by kernel_rfl) (by kernel_rfl) (by rfl) (by first | assumption | decide +kernel) (by decide +kernel) ⟨rfl, rfl, rfl, rfl, rfl, by decide +kernel⟩ ?hw ?hc
  case hw => w_witness2
  case hc =>
    refine L2.walk_ofE (l := PySem.Challenge.rw_wayback_k03_views_of_records) (n := 63) (k := 40) (x := "script") (CX := L2.CX0) rfl (by decide) (by kernel_rfl) ⟨rfl, by decide, by decide⟩ ?F (fun _ _ _ _ z => z)
    intro w mg fa h Y G hmg0
    obtain ⟨K, KX, c⟩ := Y
    have hmg : mg ("law" : PySem.Str) = some (.ref fa) := by
      have e : (HandSHeadRun.topDef (OpenLaw.row PySem.Challenge.rw_wayback_k03_views_of_records).prog 55).name = ("law" : PySem.Str) := by kernel_rfl
      rw [← e]
      exact hmg0
    exact Wk03.tb.law_ok (n := 4096) (k := 40) (f := 68) (r := Wk03.r68) c KX G Wk03.bnd Wk03.chk rfl rfl hmg fun ns h => by rw [Wk03.ds_eq, Wk03.cs_eq]; exact Wk03.law_run ns h
