import PyProof.Rows.All
import HandS.ForMost
import HandS.ForExc
import HandS.TupAny
import HandS.TupMul
import HandS.Wide
import HandS.IsInst
import HandS.Style
import HandS.Deep
import HandS.RaiseMore
import HandS.Rev
import HandS.RevTup
import HandS.SetFor
import HandS.TryOnly
import HandS.ExcIs
import KE.GoesMore
import KE.GoesEnum
import HandS.TryMany
import HandS.MakeKwOnly
import HandS.Conv
import HandS.Strs
import HandS.CallSlots
import HandS.Codes
import HandS.ExcInit
import HandS.ExcField
import HandS.ClsMeth
import KE.KExcIs
import PyProof.EqKinds
import KE.KEqDict
import HandS.TupLe
import PyProof.WalkInts
import HandS.DictComp
import HandS.SortInts
import HandS.Zip
import HandS.SortOrd
import HandS.NamedTupSort
import KE.KSortTupAny
import KE.SortData
import PySem.Challenge.RW_spentblocks_k02_whole_shapes_there_and_b
set_option Elab.async false
set_option linter.all false
set_option maxRecDepth 100000
set_option maxHeartbeats  4000000
/-! The data layer DL over HandS: values as data D, an own heap of cells, and how they lie in the abstract heap. -/
namespace DL
open PySem PySem.Spec L2
open PyProof.Rows hiding St

/-! ### data, cells -/
inductive D where
  | non
  | bl (b : Bool)
  | int (i : Int)
  | str (x : Str)
  | tup (ds : List D)
  /-- a list that is never written (the script) -/
  | rol (ds : List D)
  /-- a cell of the own heap -/
  | ref (n : Nat)
  /-- a caught exception: its address, its class's name -/
  | exn0 (a : Addr) (c : Str)
  /-- a caught exception with a field: its address, its dict's, its class's name, the field -/
  | exn1 (a dd : Addr) (c f : Str) (d : D)
inductive Cell where
  | lst (ds : List D)
  | dic (kvs : List (Key × D))
  /-- a dict that a loop walks -/
  | ldic (kvs : List (Key × D))
  /-- an instance of the class of this name -/
  | obj (c : Str) (fs : List (Str × D))
abbrev DH := List Cell
abbrev DE := List (Option D)

/-- a read-only list: locked, or of the module -/
def Rol (K : PySem.W.Frag) (H : Hp) (a : Addr) (xs : List V) : Prop :=
  (∃ o, H a = some (.frz o (.lst xs))) ∨
    ∃ (o : Obj) (its : Array Value) (n : Nat), K.lookup a = some o ∧ o.cls = .type "list" ∧ o.dict = none ∧ o.data = .seq its n ∧ its.size ≤ sizeLine ∧ Vals xs its.toList
theorem Rol.sq {K : PySem.W.Frag} {H : Hp} {a : Addr} {xs : List V} (h : Rol K H a xs) : SqL K H a xs := by
  rcases h with ⟨o, e⟩ | h
  · exact .inl (.inr ⟨o, e⟩)
  · exact .inr h

/-- a tuple: known to its object (no dict of its own), or of the module -/
def Tp (K : PySem.W.Frag) (H : Hp) (a : Addr) (xs : List V) : Prop :=
  (∃ o, H a = some (.frz o (.tup xs)) ∧ o.cls = .type "tuple" ∧ o.dict = none) ∨
    ∃ (o : Obj) (its : Array Value) (n : Nat), K.lookup a = some o ∧ o.cls = .type "tuple" ∧ o.dict = none ∧ o.data = .seq its n ∧ its.size ≤ sizeLine ∧ Vals xs its.toList
theorem Tp.sq {K : PySem.W.Frag} {H : Hp} {a : Addr} {xs : List V} (h : Tp K H a xs) : SqT K H a xs := by
  rcases h with ⟨o, e, _, _⟩ | ⟨o, its, n, h1, h2, _, h3, h4, h5⟩
  · exact .inl (.inr ⟨o, e⟩)
  · exact .inr ⟨o, its, n, h1, h2, h3, h4, h5⟩
/-- no dict that a loop walks -/
def notK : HO → Prop
  | .dK _ => False
  | _ => True

mutual
inductive Rep (K : PySem.W.Frag) (ρ : List Addr) (H : Hp) : D → V → Prop
  | non : Rep K ρ H .non .non
  | bl (b : Bool) : Rep K ρ H (.bl b) (.bl b)
  | int (i : Int) : Rep K ρ H (.int i) (.int i)
  | str (x : Str) : Rep K ρ H (.str x) (.str x)
  | tup {ds : List D} {a : Addr} {xs : List V} : Tp K H a xs → RepL K ρ H ds xs → Rep K ρ H (.tup ds) (.ref a)
  | rol {ds : List D} {a : Addr} {xs : List V} : Rol K H a xs → RepL K ρ H ds xs → Rep K ρ H (.rol ds) (.ref a)
  | ref {n : Nat} {a : Addr} : ρ[n]? = some a → Rep K ρ H (.ref n) (.ref a)
  | exn0 {a : Addr} {c : Str} : Rep K ρ H (.exn0 a c) (.ref a)
  | exn1 {a dd : Addr} {c f : Str} {d : D} {v : V} : H dd = some (.xd [(f, v)]) → Rep K ρ H d v → Rep K ρ H (.exn1 a dd c f d) (.ref a)
inductive RepL (K : PySem.W.Frag) (ρ : List Addr) (H : Hp) : List D → List V → Prop
  | nil : RepL K ρ H [] []
  | cons {d : D} {ds : List D} {v : V} {vs : List V} : Rep K ρ H d v → RepL K ρ H ds vs → RepL K ρ H (d :: ds) (v :: vs)
end

/-- the own heap grows; tuples and locked lists stay -/
structure Grow (ρ : List Addr) (H : Hp) (ρ' : List Addr) (H' : Hp) : Prop where
  pre : ∃ r, ρ' = ρ ++ r
  tup : ∀ a xs, H a = some (.tup xs) → H' a = some (.tup xs)
  frz : ∀ a o u, H a = some (.frz o u) → notK u → H' a = some (.frz o u)
  xd : ∀ a xs, H a = some (.xd xs) → H' a = some (.xd xs)
theorem Grow.refl (ρ : List Addr) (H : Hp) : Grow ρ H ρ H := ⟨⟨[], by rw [List.append_nil]⟩, fun _ _ e => e, fun _ _ _ e _ => e, fun _ _ e => e⟩
theorem Grow.trans {ρ ρ1 ρ2 : List Addr} {H H1 H2 : Hp} (a : Grow ρ H ρ1 H1) (b : Grow ρ1 H1 ρ2 H2) : Grow ρ H ρ2 H2 := by
  obtain ⟨r, e⟩ := a.pre
  obtain ⟨r', e'⟩ := b.pre
  exact ⟨⟨r ++ r', by rw [e', e, List.append_assoc]⟩, fun x xs h => b.tup x xs (a.tup x xs h), fun x o u h k => b.frz x o u (a.frz x o u h k) k, fun x xs h => b.xd x xs (a.xd x xs h)⟩
theorem Grow.at_ {ρ ρ' : List Addr} {H H' : Hp} (g : Grow ρ H ρ' H') {n : Nat} {a : Addr} (h : ρ[n]? = some a) : ρ'[n]? = some a := by
  obtain ⟨r, e⟩ := g.pre
  rw [e, List.getElem?_append_left (List.getElem?_eq_some_iff.mp h).1]
  exact h
theorem Grow.tp {K : PySem.W.Frag} {ρ ρ' : List Addr} {H H' : Hp} (g : Grow ρ H ρ' H') {a : Addr} {xs : List V} (h : Tp K H a xs) : Tp K H' a xs := by
  rcases h with ⟨o, e, h⟩ | h
  · exact .inl ⟨o, g.frz a o _ e trivial, h⟩
  · exact .inr h
theorem Grow.rl {K : PySem.W.Frag} {ρ ρ' : List Addr} {H H' : Hp} (g : Grow ρ H ρ' H') {a : Addr} {xs : List V} (h : Rol K H a xs) : Rol K H' a xs := by
  rcases h with ⟨o, e⟩ | h
  · exact .inl ⟨o, g.frz a o _ e trivial⟩
  · exact .inr h
section
variable {K : PySem.W.Frag} {ρ ρ' : List Addr} {H H' : Hp}
mutual
theorem Rep.grow (g : Grow ρ H ρ' H') : ∀ {d : D} {v : V}, Rep K ρ H d v → Rep K ρ' H' d v
  | _, _, .non => .non
  | _, _, .bl b => .bl b
  | _, _, .int i => .int i
  | _, _, .str x => .str x
  | _, _, .tup h r => .tup (g.tp h) (RepL.grow g r)
  | _, _, .rol h r => .rol (g.rl h) (RepL.grow g r)
  | _, _, .ref h => .ref (g.at_ h)
  | _, _, .exn0 => .exn0
  | _, _, .exn1 h r => .exn1 (g.xd _ _ h) (Rep.grow g r)
theorem RepL.grow (g : Grow ρ H ρ' H') : ∀ {ds : List D} {vs : List V}, RepL K ρ H ds vs → RepL K ρ' H' ds vs
  | _, _, .nil => .nil
  | _, _, .cons h r => .cons (Rep.grow g h) (RepL.grow g r)
end
theorem RepL.length : ∀ {ds : List D} {vs : List V}, RepL K ρ H ds vs → ds.length = vs.length
  | _, _, .nil => rfl
  | _, _, .cons _ r => congrArg (· + 1) (RepL.length r)
theorem RepL.get : ∀ {ds : List D} {vs : List V} {i : Nat} {d : D}, RepL K ρ H ds vs → ds[i]? = some d → ∃ v, vs[i]? = some v ∧ Rep K ρ H d v
  | _, _, _, _, .nil, e => by simp at e
  | _, _, 0, _, .cons h _, e => by
    simp at e
    subst e
    exact ⟨_, rfl, h⟩
  | _, _, i + 1, d, .cons _ r, e => by
    obtain ⟨v, h1, h2⟩ := RepL.get (i := i) (d := d) r (by simpa using e)
    exact ⟨v, by simpa using h1, h2⟩
theorem RepL.get' : ∀ {ds : List D} {vs : List V} {i : Nat} {v : V}, RepL K ρ H ds vs → vs[i]? = some v → ∃ d, ds[i]? = some d ∧ Rep K ρ H d v
  | _, _, _, _, .nil, e => by simp at e
  | _, _, 0, _, .cons h _, e => by
    simp at e
    subst e
    exact ⟨_, rfl, h⟩
  | _, _, i + 1, d, .cons _ r, e => by
    obtain ⟨v, h1, h2⟩ := RepL.get' (i := i) (v := d) r (by simpa using e)
    exact ⟨v, by simpa using h1, h2⟩
theorem RepL.append : ∀ {ds es : List D} {vs us : List V}, RepL K ρ H ds vs → RepL K ρ H es us → RepL K ρ H (ds ++ es) (vs ++ us)
  | _, _, _, _, .nil, s => s
  | _, _, _, _, .cons h r, s => .cons h (RepL.append r s)
theorem RepL.take : ∀ {ds : List D} {vs : List V} (n : Nat), RepL K ρ H ds vs → RepL K ρ H (ds.take n) (vs.take n)
  | _, _, 0, _ => .nil
  | _, _, _ + 1, .nil => .nil
  | _, _, n + 1, .cons h r => .cons h (RepL.take n r)
theorem RepL.drop : ∀ {ds : List D} {vs : List V} (n : Nat), RepL K ρ H ds vs → RepL K ρ H (ds.drop n) (vs.drop n)
  | _, _, 0, r => r
  | _, _, _ + 1, .nil => .nil
  | _, _, n + 1, .cons _ r => RepL.drop n r
theorem RepL.set {d : D} {v : V} (h : Rep K ρ H d v) : ∀ {ds : List D} {vs : List V} (i : Nat), RepL K ρ H ds vs → RepL K ρ H (ds.set i d) (vs.set i v)
  | _, _, _, .nil => .nil
  | _, _, 0, .cons _ r => .cons h r
  | _, _, i + 1, .cons q r => .cons q (RepL.set h i r)
theorem RepL.one {d : D} {v : V} (h : Rep K ρ H d v) : RepL K ρ H [d] [v] := .cons h .nil
theorem RepL.dropLast : ∀ {ds : List D} {vs : List V}, RepL K ρ H ds vs → RepL K ρ H ds.dropLast vs.dropLast := fun {ds vs} r => by
  rw [List.dropLast_eq_take, List.dropLast_eq_take, r.length]
  exact r.take _
theorem RepL.eraseIdx : ∀ {ds : List D} {vs : List V} (i : Nat), RepL K ρ H ds vs → RepL K ρ H (ds.eraseIdx i) (vs.eraseIdx i)
  | _, _, _, .nil => .nil
  | _, _, 0, .cons _ r => r
  | _, _, i + 1, .cons q r => .cons q (RepL.eraseIdx i r)
theorem RepL.reverse : ∀ {ds : List D} {vs : List V}, RepL K ρ H ds vs → RepL K ρ H ds.reverse vs.reverse
  | _, _, .nil => .nil
  | _, _, .cons h r => by
    rw [List.reverse_cons, List.reverse_cons]
    exact (RepL.reverse r).append (.one h)
theorem RepL.rep {ds : List D} {vs : List V} (h : RepL K ρ H ds vs) : ∀ k : Nat, RepL K ρ H (List.replicate k ds).flatten (List.replicate k vs).flatten
  | 0 => .nil
  | k + 1 => by
    rw [List.replicate_succ, List.replicate_succ, List.flatten_cons, List.flatten_cons]
    exact h.append (RepL.rep h k)
theorem RepL.insert {d : D} {v : V} (h : Rep K ρ H d v) {ds : List D} {vs : List V} (i : Nat) (r : RepL K ρ H ds vs) : RepL K ρ H (ds.take i ++ d :: ds.drop i) (vs.take i ++ v :: vs.drop i) :=
  (r.take i).append (.cons h (r.drop i))
end

/-! ### environments -/
inductive RepS (K : PySem.W.Frag) (ρ : List Addr) (H : Hp) : DE → St → Prop
  | nil : RepS K ρ H [] []
  | no {σ : DE} {τ : St} {o : Option V} : RepS K ρ H σ τ → RepS K ρ H (none :: σ) (o :: τ)
  | yes {d : D} {v : V} {σ : DE} {τ : St} : Rep K ρ H d v → RepS K ρ H σ τ → RepS K ρ H (some d :: σ) (some v :: τ)
section
variable {K : PySem.W.Frag} {ρ ρ' : List Addr} {H H' : Hp}
theorem RepS.grow (g : Grow ρ H ρ' H') : ∀ {σ : DE} {τ : St}, RepS K ρ H σ τ → RepS K ρ' H' σ τ
  | _, _, .nil => .nil
  | _, _, .no r => .no (RepS.grow g r)
  | _, _, .yes h r => .yes (h.grow g) (RepS.grow g r)
theorem RepS.length : ∀ {σ : DE} {τ : St}, RepS K ρ H σ τ → σ.length = τ.length
  | _, _, .nil => rfl
  | _, _, .no r => congrArg (· + 1) (RepS.length r)
  | _, _, .yes _ r => congrArg (· + 1) (RepS.length r)
theorem RepS.get : ∀ {σ : DE} {τ : St} {i : Nat} {d : D}, RepS K ρ H σ τ → σ[i]? = some (some d) → ∃ v, τ[i]? = some (some v) ∧ Rep K ρ H d v
  | _, _, _, _, .nil, e => by simp at e
  | _, _, 0, _, .no _, e => by simp at e
  | _, _, 0, _, .yes h _, e => by
    simp at e
    subst e
    exact ⟨_, rfl, h⟩
  | _, _, i + 1, d, .no r, e => by
    obtain ⟨v, h1, h2⟩ := RepS.get (i := i) (d := d) r (by simpa using e)
    exact ⟨v, by simpa using h1, h2⟩
  | _, _, i + 1, d, .yes _ r, e => by
    obtain ⟨v, h1, h2⟩ := RepS.get (i := i) (d := d) r (by simpa using e)
    exact ⟨v, by simpa using h1, h2⟩
theorem RepS.set {d : D} {v : V} (h : Rep K ρ H d v) : ∀ {σ : DE} {τ : St} (i : Nat), RepS K ρ H σ τ → RepS K ρ H (σ.set i (some d)) (τ.set i (some v))
  | _, _, _, .nil => .nil
  | _, _, 0, .no r => .yes h r
  | _, _, 0, .yes _ r => .yes h r
  | _, _, i + 1, .no r => .no (RepS.set h i r)
  | _, _, i + 1, .yes q r => .yes q (RepS.set h i r)
theorem RepS.unset {o : Option V} : ∀ {σ : DE} {τ : St} (i : Nat), RepS K ρ H σ τ → RepS K ρ H (σ.set i none) (τ.set i o)
  | _, _, _, .nil => .nil
  | _, _, 0, .no r => .no r
  | _, _, 0, .yes _ r => .no r
  | _, _, i + 1, .no r => .no (RepS.unset i r)
  | _, _, i + 1, .yes q r => .yes q (RepS.unset i r)
theorem RepS.blank : ∀ (τ : St), RepS K ρ H (List.replicate τ.length none) τ
  | [] => .nil
  | _ :: τ => .no (RepS.blank τ)
theorem RepS.start : ∀ {ds : List D} {vs : List V} (k : Nat), RepL K ρ H ds vs → RepS K ρ H (ds.map some ++ List.replicate k none) (vs.map some ++ List.replicate k none)
  | _, _, k, .nil => by
    have h := RepS.blank (K := K) (ρ := ρ) (H := H) (List.replicate k none)
    rw [List.length_replicate] at h
    exact h
  | _, _, k, .cons h r => .yes h (RepS.start k r)
end

/-! ### the world: the cells of the own heap in the abstract heap -/
def RepK (K : PySem.W.Frag) (ρ : List Addr) (H : Hp) : List (Key × D) → List (Key × V) → Prop := Paired fun p q => p.1 = q.1 ∧ Rep K ρ H p.2 q.2
def RepF (K : PySem.W.Frag) (ρ : List Addr) (H : Hp) : List (Str × D) → List (Str × V) → Prop := Paired fun p q => p.1 = q.1 ∧ Rep K ρ H p.2 q.2
def CellOk (K : PySem.W.Frag) (mg : Str → Option Value) (ρ : List Addr) (H : Hp) (a : Addr) : Cell → Prop
  | .lst ds => ∃ xs, H a = some (.lst xs) ∧ RepL K ρ H ds xs
  | .dic kvs => ∃ ks, H a = some (.dK ks) ∧ RepK K ρ H kvs ks
  | .ldic kvs => ∃ o ks, H a = some (.frz o (.dK ks)) ∧ RepK K ρ H kvs ks
  | .obj c fs => ∃ C dx xs, mg c = some (.ref C) ∧ H a = some (.ins C dx xs) ∧ RepF K ρ H fs xs
/-- the object at an address is a cell's, no tuple, no locked list -/
def celly : HO → Prop
  | .lst _ => True
  | .dK _ => True
  | .frz _ (.dK _) => True
  | .ins _ _ _ => True
  | _ => False
structure Wd (K : PySem.W.Frag) (mg : Str → Option Value) (ρ : List Addr) (dh : DH) (H : Hp) : Prop where
  len : ρ.length = dh.length
  nd : ρ.Nodup
  at_ : ∀ (i : Nat) (c : Cell) (a : Addr), dh[i]? = some c → ρ[i]? = some a → CellOk K mg ρ H a c
section
variable {K : PySem.W.Frag} {mg : Str → Option Value} {ρ ρ' : List Addr} {H H' : Hp} {dh : DH} {a : Addr} {c : Cell}
theorem CellOk.celly (h : CellOk K mg ρ H a c) : ∃ o, H a = some o ∧ celly o := by
  cases c with
  | lst ds => obtain ⟨xs, e, _⟩ := h; exact ⟨_, e, trivial⟩
  | dic kvs => obtain ⟨xs, e, _⟩ := h; exact ⟨_, e, trivial⟩
  | ldic kvs => obtain ⟨o, xs, e, _⟩ := h; exact ⟨_, e, trivial⟩
  | obj c fs => obtain ⟨C, dx, xs, _, e, _⟩ := h; exact ⟨_, e, trivial⟩
theorem RepK.grow (g : Grow ρ H ρ' H') {kvs : List (Key × D)} {ks : List (Key × V)} (r : RepK K ρ H kvs ks) : RepK K ρ' H' kvs ks := Paired.mapP r fun _ _ h => ⟨h.1, h.2.grow g⟩
theorem RepF.grow (g : Grow ρ H ρ' H') {kvs : List (Str × D)} {ks : List (Str × V)} (r : RepF K ρ H kvs ks) : RepF K ρ' H' kvs ks := Paired.mapP r fun _ _ h => ⟨h.1, h.2.grow g⟩
/-- a cell whose object is the same still -/
theorem CellOk.grow (g : Grow ρ H ρ' H') (e : H' a = H a) (h : CellOk K mg ρ H a c) : CellOk K mg ρ' H' a c := by
  cases c with
  | lst ds => obtain ⟨xs, q, r⟩ := h; exact ⟨xs, e.trans q, r.grow g⟩
  | dic kvs => obtain ⟨xs, q, r⟩ := h; exact ⟨xs, e.trans q, r.grow g⟩
  | ldic kvs => obtain ⟨o, xs, q, r⟩ := h; exact ⟨o, xs, e.trans q, r.grow g⟩
  | obj c fs => obtain ⟨C, dx, xs, m, q, r⟩ := h; exact ⟨C, dx, xs, m, e.trans q, r.grow g⟩
theorem Wd.cell (W : Wd K mg ρ dh H) {i : Nat} (h : dh[i]? = some c) : ∃ a, ρ[i]? = some a ∧ CellOk K mg ρ H a c := by
  have hl : i < ρ.length := by rw [W.len]; exact (List.getElem?_eq_some_iff.mp h).1
  exact ⟨ρ[i], List.getElem?_eq_getElem hl, W.at_ i c _ h (List.getElem?_eq_getElem hl)⟩
theorem Wd.cellAt (W : Wd K mg ρ dh H) {i : Nat} (h : dh[i]? = some c) (ha : ρ[i]? = some a) : CellOk K mg ρ H a c := W.at_ i c a h ha
theorem Wd.there (W : Wd K mg ρ dh H) (ha : a ∈ ρ) : ∃ o, H a = some o ∧ celly o := by
  obtain ⟨i, hi, e⟩ := List.getElem_of_mem ha
  have h2 : i < dh.length := by rw [← W.len]; exact hi
  have q : ρ[i]? = some a := by rw [List.getElem?_eq_getElem hi, e]
  exact (W.at_ i _ a (List.getElem?_eq_getElem h2) q).celly
theorem Wd.nin (W : Wd K mg ρ dh H) (h : H a = none) : a ∉ ρ := fun m => by
  obtain ⟨o, e, _⟩ := W.there m
  rw [h] at e
  cases e
/-- a new object that is no cell -/
theorem grow_upd {o : HO} (h : H a = none) : Grow ρ H ρ (upd H a o) :=
  ⟨⟨[], by rw [List.append_nil]⟩, fun b xs e => by rw [upd_ne (ne_of_none e h)]; exact e, fun b o u e _ => by rw [upd_ne (ne_of_none e h)]; exact e, fun b xs e => by rw [upd_ne (ne_of_none e h)]; exact e⟩
theorem Wd.side (W : Wd K mg ρ dh H) {o : HO} (h : H a = none) : Wd K mg ρ dh (upd H a o) :=
  ⟨W.len, W.nd, fun i c b hi hb => (W.at_ i c b hi hb).grow (grow_upd h) (upd_ne fun e => W.nin h (by rw [← e]; exact List.mem_of_getElem? hb))⟩
/-- a new cell -/
theorem grow_cell {o : HO} (h : H a = none) : Grow ρ H (ρ ++ [a]) (upd H a o) :=
  ⟨⟨[a], rfl⟩, fun b xs e => by rw [upd_ne (ne_of_none e h)]; exact e, fun b o u e _ => by rw [upd_ne (ne_of_none e h)]; exact e, fun b xs e => by rw [upd_ne (ne_of_none e h)]; exact e⟩
theorem Wd.new (W : Wd K mg ρ dh H) {o : HO} (h : H a = none) (k : CellOk K mg (ρ ++ [a]) (upd H a o) a c) : Wd K mg (ρ ++ [a]) (dh ++ [c]) (upd H a o) := by
  refine ⟨by rw [List.length_append, List.length_append, W.len]; rfl, ?_, fun i x b hi hb => ?_⟩
  · rw [List.nodup_append]
    exact ⟨W.nd, by simp, fun x hx y hy => by
      rw [List.mem_singleton] at hy
      subst hy
      intro e
      subst e
      exact W.nin h hx⟩
  · by_cases hl : i < dh.length
    · rw [List.getElem?_append_left hl] at hi
      rw [List.getElem?_append_left (by rw [W.len]; exact hl)] at hb
      exact (W.at_ i x b hi hb).grow (grow_cell h) (upd_ne fun e => W.nin h (by rw [← e]; exact List.mem_of_getElem? hb))
    · have hl2 : i < (dh ++ [c]).length := (List.getElem?_eq_some_iff.mp hi).1
      rw [List.length_append] at hl2
      have : i = dh.length := by simp at hl2; omega
      subst this
      rw [List.getElem?_append_right (Nat.le_refl _), Nat.sub_self] at hi
      rw [List.getElem?_append_right (by rw [W.len]; exact Nat.le_refl _), W.len, Nat.sub_self] at hb
      simp at hi hb
      subst hi
      subst hb
      exact k
/-- a cell is written -/
theorem grow_put {o u : HO} (h : H a = some u) (hc : celly u) : Grow ρ H ρ (upd H a o) :=
  ⟨⟨[], by rw [List.append_nil]⟩, fun b xs e => by
    rw [upd_ne fun q => ?_]
    · exact e
    · subst q
      rw [h] at e
      cases e
      exact hc, fun b o u e k => by
    rw [upd_ne fun q => ?_]
    · exact e
    · subst q
      rw [h] at e
      cases e
      cases u <;> first | exact hc | exact k, fun b xs e => by
    rw [upd_ne fun q => ?_]
    · exact e
    · subst q
      rw [h] at e
      cases e
      exact hc⟩
theorem Wd.put (W : Wd K mg ρ dh H) {i : Nat} {o u : HO} (ha : ρ[i]? = some a) (h : H a = some u) (hc : celly u) (k : CellOk K mg ρ (upd H a o) a c) : Wd K mg ρ (dh.set i c) (upd H a o) := by
  refine ⟨by rw [List.length_set]; exact W.len, W.nd, fun j x b hj hb => ?_⟩
  by_cases e : i = j
  · subst e
    rw [ha] at hb
    cases hb
    rw [List.getElem?_set_self' ] at hj
    cases hd : dh[i]? with
    | none => rw [hd] at hj; cases hj
    | some z =>
      rw [hd] at hj
      cases hj
      exact k
  · rw [List.getElem?_set_ne e] at hj
    refine (W.at_ j x b hj hb).grow (grow_put h hc) (upd_ne fun q => e ?_)
    subst q
    exact nd_ix W.nd ha hb
end
end DL

/-! The data layer: what code gives (Res), readings of functions over data, names, constants, operators, comparisons, tests. -/
namespace DL
open PySem PySem.Spec L2
open PyProof.Rows hiding St

/-- an exception: its class's name, its fields -/
structure Exv where
  cls : Str
  fs : List (Str × D)
inductive Res (α : Type) where
  | ok (a : α) (h : DH)
  | exc (e : Exv) (h : DH)
  | bad
def Res.bind {α β : Type} : Res α → (α → DH → Res β) → Res β
  | .ok a h, f => f a h
  | .exc e h, _ => .exc e h
  | .bad, _ => .bad
@[simp] theorem Res.bind_ok {α β : Type} {a : α} {h : DH} {f : α → DH → Res β} : Res.bind (.ok a h) f = f a h := rfl
@[simp] theorem Res.bind_exc {α β : Type} {e : Exv} {h : DH} {f : α → DH → Res β} : Res.bind (.exc e h) f = .exc e h := rfl
@[simp] theorem Res.bind_bad {α β : Type} {f : α → DH → Res β} : Res.bind .bad f = .bad := rfl
abbrev FE := DE → DH → Res D
abbrev FT := DE → DH → Res Bool
abbrev FA := DE → DH → Res (List D)

def ExcRep (K : PySem.W.Frag) (mg : Str → Option Value) (ρ : List Addr) (H : Hp) (e : Exv) (c : Value) (o : Option Addr) : Prop :=
  ∃ C, mg e.cls = some (.ref C) ∧ c = .ref C ∧ (e.fs = [] ∧ o = none ∨ e.fs ≠ [] ∧ ∃ dd xs, o = some dd ∧ H dd = some (.xd xs) ∧ RepF K ρ H e.fs xs)

/-- what is wanted behind, of a result -/
def Pst {α β : Type} (K : PySem.W.Frag) (mg : Str → Option Value) (R : List Addr → Hp → α → β → Prop) (W : WX) (τ : L2.St) (ρ : List Addr) (H : Hp) (Q : β → Hp → Prop) : Res α → Prop
  | .ok a dh => ∀ ρ' H' b, Grow ρ H ρ' H' → Wd K mg ρ' dh H' → R ρ' H' a b → Q b H'
  | .exc e dh => ∀ ρ' H' c o, Grow ρ H ρ' H' → Wd K mg ρ' dh H' → ExcRep K mg ρ' H' e c o → W c o τ H'
  | .bad => False
/-- the reading of a function over data -/
def rd {α β : Type} (K : PySem.W.Frag) (mg : Str → Option Value) (R : List Addr → Hp → α → β → Prop) (W : WX) (f : DE → DH → Res α) : L2.St → Hp → (β → Hp → Prop) → Prop :=
  fun τ H Q => ∃ σ dh ρ, Wd K mg ρ dh H ∧ RepS K ρ H σ τ ∧ Pst K mg R W τ ρ H Q (f σ dh)
abbrev rE (K : PySem.W.Frag) (mg : Str → Option Value) (W : WX) (f : FE) : TE := rd K mg (Rep K) W f
abbrev rT (K : PySem.W.Frag) (mg : Str → Option Value) (W : WX) (f : FT) : TT := rd K mg (fun _ _ a b => a = b) W f
abbrev rA (K : PySem.W.Frag) (mg : Str → Option Value) (W : WX) (f : FA) : TA := rd K mg (RepL K) W f
section
variable {α β : Type} {K : PySem.W.Frag} {mg : Str → Option Value} {R : List Addr → Hp → α → β → Prop} {W : WX} {τ : L2.St} {ρ ρ' : List Addr} {H H' : Hp} {Q Q' : β → Hp → Prop}
theorem Pst.grow {r : Res α} (g : Grow ρ H ρ' H') (p : Pst K mg R W τ ρ H Q r) : Pst K mg R W τ ρ' H' Q r := by
  cases r with
  | ok a dh => exact fun _ _ _ g' => p _ _ _ (g.trans g')
  | exc e dh => exact fun _ _ _ _ g' => p _ _ _ _ (g.trans g')
  | bad => exact p
theorem Pst.mono {r : Res α} (p : Pst K mg R W τ ρ H Q r) (h : ∀ b H', Q b H' → Q' b H') : Pst K mg R W τ ρ H Q' r := by
  cases r with
  | ok a dh => exact fun _ _ _ g' w' r' => h _ _ (p _ _ _ g' w' r')
  | exc e dh => exact p
  | bad => exact p
theorem rd.mono {f : DE → DH → Res α} (h : ∀ b H', Q b H' → Q' b H') (r : rd K mg R W f τ H Q) : rd K mg R W f τ H Q' := by
  obtain ⟨σ, dh, ρ, w, s, p⟩ := r
  exact ⟨σ, dh, ρ, w, s, p.mono h⟩
/-- one part, then the rest -/
theorem rd_bind {γ δ : Type} {R2 : List Addr → Hp → γ → δ → Prop} {P : δ → Hp → Prop} {f : DE → DH → Res α} {g : α → DE → DH → Res γ} (r : rd K mg R2 W (fun σ h => (f σ h).bind fun x h1 => g x σ h1) τ H P) :
    rd K mg R W f τ H fun b H1 => ∃ x σ dh ρ, Wd K mg ρ dh H1 ∧ RepS K ρ H1 σ τ ∧ R ρ H1 x b ∧ Pst K mg R2 W τ ρ H1 P (g x σ dh) := by
  obtain ⟨σ, dh, ρ, w, s, p⟩ := r
  refine ⟨σ, dh, ρ, w, s, ?_⟩
  cases e : f σ dh with
  | ok x h1 =>
    simp only [e, Res.bind] at p
    intro ρ1 H1 v g1 w1 rx
    exact ⟨x, σ, h1, ρ1, w1, s.grow g1, rx, p.grow g1⟩
  | exc x h1 =>
    simp only [e, Res.bind] at p
    exact p
  | bad =>
    simp only [e, Res.bind] at p
    exact p
end
section
variable {X : Cx} {e : Expr}
theorem PE.weak {t t' : TE} (h : PE X e t) (w : ∀ σ H Q, t' σ H Q → t σ H Q) : PE X e t' := ⟨fun pins s σ H Q I q => h.run pins s σ H Q I (w σ H Q q)⟩
theorem PT.weak {t t' : TT} (h : PT X e t) (w : ∀ σ H Q, t' σ H Q → t σ H Q) : PT X e t' := ⟨fun pins s σ H Q I q => h.run pins s σ H Q I (w σ H Q q)⟩
theorem PW.weak {t t' : TT} (h : PW X e t) (w : ∀ σ H Q, t' σ H Q → t σ H Q) : PW X e t' := ⟨fun wh pins s σ H Q I q => h.run wh pins s σ H Q I (w σ H Q q)⟩
theorem PA.weak {es : List Expr} {t t' : TA} (h : PA X es t) (w : ∀ σ H Q, t' σ H Q → t σ H Q) : PA X es t' := ⟨fun pos pins s σ H Q I q => h.run pos pins s σ H Q I (w σ H Q q)⟩
theorem PS.weak {st : Stmt} {t t' : TS} (h : PS X st t) (w : ∀ D σ H, t' D σ H → t D σ H) : PS X st t' := ⟨fun pins s σ H D I q => h.run pins s σ H D I (w D σ H q)⟩
theorem PSs.weak {st : List Stmt} {t t' : TS} (h : PSs X st t) (w : ∀ D σ H, t' D σ H → t D σ H) : PSs X st t' := ⟨fun pins s σ H D I q => h.run pins s σ H D I (w D σ H q)⟩
end

/-! ### names, constants -/
def getS (σ : DE) (i : Nat) : Option D := match σ[i]? with
  | some (some d) => some d
  | _ => none
@[simp] theorem getS_zero {o : Option D} {σ : DE} : getS (o :: σ) 0 = o := by
  unfold getS
  cases o <;> rfl
@[simp] theorem getS_succ {o : Option D} {σ : DE} {i : Nat} : getS (o :: σ) (i + 1) = getS σ i := by
  unfold getS
  rw [List.getElem?_cons_succ]
def dVar (i : Nat) : FE := fun σ h => match getS σ i with
  | some d => .ok d h
  | none => .bad
def dC (d : D) : FE := fun _ h => .ok d h
def dBad {α : Type} : DE → DH → Res α := fun _ _ => .bad
section
variable {X : Cx} {W : WX} {K : PySem.W.Frag} {mg : Str → Option Value}
theorem rd_var {i : Nat} {τ : L2.St} {H : Hp} {Q : VK} (r : rE K mg W (dVar i) τ H Q) : tVar i τ H Q := by
  obtain ⟨σ, dh, ρ, w, s, p⟩ := r
  unfold dVar getS at p
  cases e : σ[i]? with
  | none => simp only [e] at p; exact p.elim
  | some o =>
    cases o with
    | none => simp only [e] at p; exact p.elim
    | some d =>
      simp only [e] at p
      obtain ⟨v, h1, h2⟩ := s.get e
      exact ⟨v, h1, p _ _ _ (Grow.refl _ _) w h2⟩
theorem de_var {x : Str} {pos : Pos} (i : Nat) (hN : X.N[i]? = some x := by rfl) (hv : Vis X.env.scope x := by first | exact Or.inl rfl | exact Or.inr (Or.inl rfl) | exact Or.inr (Or.inr rfl)) (hd : (x == ("__debug__" : Str)) = false := by decide)
    (hcd : (x == ("__classdict__" : Str)) = false := by decide) : PE X (.Name x pos) (rE X.K X.mg W (dVar i)) := PE.weak (pe_var hN hv hd hcd) fun _ _ _ r => rd_var r
/-- a constant that lies at no address -/
def absD : D → Option V
  | .non => some .non
  | .bl b => some (.bl b)
  | .int i => some (.int i)
  | .str x => some (.str x)
  | _ => none
theorem absD_rep {d : D} {v : V} (h : absD d = some v) (ρ : List Addr) (H : Hp) : Rep K ρ H d v := by
  cases d <;> simp only [absD] at h <;> first | (cases h; constructor) | cases h
theorem rd_c {d : D} {v : V} {τ : L2.St} {H : Hp} {Q : VK} (hv : absD d = some v) (r : rE K mg W (dC d) τ H Q) : tC v τ H Q := by
  obtain ⟨σ, dh, ρ, w, s, p⟩ := r
  exact p _ _ _ (Grow.refl _ _) w (absD_rep hv _ _)
theorem de_int {i j pos} : PE X (.Constant (.int i) j pos) (rE X.K X.mg W (dC (.int i))) := PE.weak pe_int fun _ _ _ r => rd_c rfl r
theorem de_bl {b j pos} : PE X (.Constant (.bool b) j pos) (rE X.K X.mg W (dC (.bl b))) := PE.weak pe_bl fun _ _ _ r => rd_c rfl r
theorem de_non {j pos} : PE X (.Constant .none j pos) (rE X.K X.mg W (dC .non)) := PE.weak pe_non fun _ _ _ r => rd_c rfl r
theorem de_str {x j pos} : PE X (.Constant (.str x) j pos) (rE X.K X.mg W (dC (.str x))) := PE.weak pe_str fun _ _ _ r => rd_c rfl r
/-- a module's constant -/
theorem de_glob {x : Str} {d : D} {v : V} {u : Value} {pos : Pos} (hv : absD d = some v) (hm : X.mg x = some u) (r : RelV v u) (hg : Gl X x := by rfl) (hd : (x == ("__debug__" : Str)) = false := by decide) : PE X (.Name x pos) (rE X.K X.mg W (dC d)) :=
  PE.weak (pe_glob hg hm r hd) fun _ _ _ r => rd_c hv r
/-- code that is never come to -/
theorem de_never {e : Expr} : PE X e (rE X.K X.mg W dBad) := ⟨fun _ _ _ _ _ _ ⟨_, _, _, _, _, p⟩ => p.elim⟩
theorem dt_never {e : Expr} : PT X e (rT X.K X.mg W dBad) := ⟨fun _ _ _ _ _ _ ⟨_, _, _, _, _, p⟩ => p.elim⟩
end

/-! ### operators -/
def dBin (op : D → D → DH → Res D) (fa fb : FE) : FE := fun σ h => (fa σ h).bind fun x h1 => (fb σ h1).bind fun y h2 => op x y h2
def dUn (op : D → DH → Res D) (fa : FE) : FE := fun σ h => (fa σ h).bind fun x h1 => op x h1
/-- an operation on values serves one on data -/
def OpS (K : PySem.W.Frag) (mg : Str → Option Value) (r : R2) (op : D → D → DH → Res D) : Prop :=
  ∀ (ρ : List Addr) (dh : DH) (H : Hp) (x y : D) (v u : V) (Q : VK) (W : WX) (τ : L2.St), Wd K mg ρ dh H → Rep K ρ H x v → Rep K ρ H y u → Pst K mg (Rep K) W τ ρ H Q (op x y dh) → r v u H Q
section
variable {X : Cx} {W : WX} {K : PySem.W.Frag} {mg : Str → Option Value} {τ : L2.St} {H : Hp} {Q : VK}
theorem rd_two {fa fb : FE} {op : D → D → DH → Res D} {r : R2} (ho : OpS K mg r op) (h : rE K mg W (dBin op fa fb) τ H Q) : tOp r (rE K mg W fa) (rE K mg W fb) τ H Q := by
  obtain ⟨σ, dh, ρ, w, s, p⟩ := h
  refine ⟨σ, dh, ρ, w, s, ?_⟩
  unfold dBin at p
  cases e : fa σ dh with
  | ok x h1 =>
    simp only [e, Res.bind] at p
    intro ρ1 H1 v g1 w1 rx
    refine ⟨σ, h1, ρ1, w1, s.grow g1, ?_⟩
    cases e2 : fb σ h1 with
    | ok y h2 =>
      simp only [e2, Res.bind] at p
      intro ρ2 H2 u g2 w2 ry
      exact ho ρ2 h2 H2 x y v u Q W τ w2 (rx.grow g2) ry (p.grow (g1.trans g2))
    | exc ex h2 =>
      simp only [e2, Res.bind] at p
      intro ρ2 H2 c o g2 w2 re
      exact p _ _ _ _ (g1.trans g2) w2 re
    | bad =>
      simp only [e2, Res.bind] at p
      exact p
  | exc ex h1 =>
    simp only [e, Res.bind] at p
    exact p
  | bad =>
    simp only [e, Res.bind] at p
    exact p
theorem rd_one {fa : FE} {op : D → DH → Res D} {r : V → Hp → VK → Prop}
    (ho : ∀ (ρ : List Addr) (dh : DH) (H : Hp) (x : D) (v : V) (Q : VK) (W : WX) (τ : L2.St), Wd K mg ρ dh H → Rep K ρ H x v → Pst K mg (Rep K) W τ ρ H Q (op x dh) → r v H Q) (h : rE K mg W (dUn op fa) τ H Q) :
    rE K mg W fa τ H fun v H1 => r v H1 Q := by
  refine rd.mono (fun b H' => ?_) (rd_bind (R := Rep K) (g := fun x σ h1 => op x h1) h)
  rintro ⟨x, σ, dh, ρ, w, s, rx, p⟩
  exact ho ρ dh H' x b Q W τ w rx p
theorem de_op {op : Operator} {r : R2} {dop : D → D → DH → Res D} {a b : Expr} {fa fb : FE} {pos : Pos} (ho : OpR X (binaryOp op) r) (hs : OpS X.K X.mg r dop) (ha : PE X a (rE X.K X.mg W fa)) (hb : PE X b (rE X.K X.mg W fb)) :
    PE X (.BinOp a op b pos) (rE X.K X.mg W (dBin dop fa fb)) := PE.weak (pe_op ho ha hb) fun _ _ _ h => rd_two hs h
theorem de_cmp {op : CmpOp} {r : R2} {dop : D → D → DH → Res D} {a b : Expr} {fa fb : FE} {pos : Pos} (ho : OpR X (compareOp op) r) (hs : OpS X.K X.mg r dop) (ha : PE X a (rE X.K X.mg W fa)) (hb : PE X b (rE X.K X.mg W fb)) (hm : behindInMarks op b = false := by first | exact nobehind _ (by decide) (by decide) | rfl | with_unfolding_all rfl) :
    PE X (.Compare a [op] [b] pos) (rE X.K X.mg W (dBin dop fa fb)) := PE.weak (pe_cmpR ho ha hb hm) fun _ _ _ h => rd_two hs h
end
/-- the value of an expression that is True or False -/
def dTest (f : FE) : FT := fun σ h => (f σ h).bind fun x h1 => match x with
  | .bl b => .ok b h1
  | _ => .bad
section
variable {X : Cx} {W : WX} {K : PySem.W.Frag} {mg : Str → Option Value} {τ : L2.St} {H : Hp}
theorem rd_test {f : FE} {Q : Bool → Hp → Prop} (h : rT K mg W (dTest f) τ H Q) : tB (rE K mg W f) τ H Q := by
  refine rd.mono (fun b H' => ?_) (rd_bind (R := Rep K) (g := fun x σ h1 => match x with | .bl b => .ok b h1 | _ => .bad) h)
  rintro ⟨x, σ, dh, ρ, w, s, rx, p⟩
  cases rx <;> first | exact p.elim | skip
  rename_i k
  exact ⟨k, rfl, p _ _ _ (Grow.refl _ _) w rfl⟩
/-- a comparison, a call ..: its value is True or False -/
theorem dt_val {e : Expr} {f : FE} (h : PE X e (rE X.K X.mg W f)) (he : ∀ whole, isTrue e X.env whole = (do let v ← whole; standAt e.pos; holding [v] (truthy v)) := by intro _; rfl) : PT X e (rT X.K X.mg W (dTest f)) :=
  PT.weak (pt_val h he) fun _ _ _ r => rd_test r
end
end DL

/-! The data layer: operators by data. -/
namespace DL
open PySem PySem.Spec L2
open PyProof.Rows hiding St

section
variable {K : PySem.W.Frag} {mg : Str → Option Value} {W : WX} {τ : L2.St} {ρ : List Addr} {H : Hp} {dh : DH} {Q : VK} {ds : List D} {xs : List V}
theorem size_lim {n : Nat} (h : n ≤ 16777216) : n ≤ sizeLine := by rw [sizeLine_eq]; exact h
theorem size_lt {n : Nat} (h : n < 16777216) : n < sizeLine := by rw [sizeLine_eq]; exact h
theorem new_at (w : Wd K mg ρ dh H) (a : Addr) : (ρ ++ [a])[dh.length]? = some a := by
  rw [← w.len, List.getElem?_append_right (Nat.le_refl _), Nat.sub_self]
  rfl
theorem new_cell (w : Wd K mg ρ dh H) {c : Cell} {o : HO} (p : Pst K mg (Rep K) W τ ρ H Q (.ok (.ref dh.length) (dh ++ [c]))) (k : ∀ a, H a = none → CellOk K mg (ρ ++ [a]) (upd H a o) a c) : ∀ a, H a = none → Q (.ref a) (upd H a o) :=
  fun a ha => p _ _ _ (grow_cell ha) (w.new ha (k a ha)) (.ref (new_at w a))
theorem new_lst (w : Wd K mg ρ dh H) (r : RepL K ρ H ds xs) (p : Pst K mg (Rep K) W τ ρ H Q (.ok (.ref dh.length) (dh ++ [.lst ds]))) : ∀ a, H a = none → Q (.ref a) (upd H a (.lst xs)) :=
  new_cell w p fun a ha => ⟨xs, upd_same, r.grow (grow_cell ha)⟩
/-- a new tuple, known to its object -/
abbrev NewT (H : Hp) (Q : VK) (xs : List V) : Prop := ∀ a o, H a = none → o.cls = .type "tuple" → o.dict = none → Q (.ref a) (upd H a (.frz o (.tup xs)))
theorem new_tup (w : Wd K mg ρ dh H) (r : RepL K ρ H ds xs) (p : Pst K mg (Rep K) W τ ρ H Q (.ok (.tup ds) dh)) : NewT H Q xs :=
  fun a o ha hc hd => p _ _ _ (grow_upd ha) (w.side ha) (.tup (.inl ⟨o, upd_same, hc, hd⟩) (r.grow (grow_upd ha)))
/-- a value as it stands -/
theorem same_val (w : Wd K mg ρ dh H) {d : D} {v : V} (r : Rep K ρ H d v) (p : Pst K mg (Rep K) W τ ρ H Q (.ok d dh)) : Q v H := p _ _ _ (Grow.refl _ _) w r
/-- a cell is written -/
theorem put_cell (w : Wd K mg ρ dh H) {n : Nat} {a : Addr} {c : Cell} {o u : HO} {d : D} {v : V} (ha : ρ[n]? = some a) (hu : H a = some u) (hc : celly u) (k : CellOk K mg ρ (upd H a o) a c) (r : Rep K ρ H d v)
    (p : Pst K mg (Rep K) W τ ρ H Q (.ok d (dh.set n c))) : Q v (upd H a o) := p _ _ _ (grow_put hu hc) (w.put ha hu hc k) (r.grow (grow_put hu hc))
theorem put_lst (w : Wd K mg ρ dh H) {n : Nat} {a : Addr} {es : List D} {ys : List V} {d : D} {v : V} (ha : ρ[n]? = some a) (hu : H a = some (.lst ys)) (rl : RepL K ρ H ds xs) (r : Rep K ρ H d v)
    (p : Pst K mg (Rep K) W τ ρ H Q (.ok d (dh.set n (.lst ds)))) : Q v (upd H a (.lst xs)) :=
  put_cell (c := .lst ds) w ha hu trivial ⟨xs, upd_same, rl.grow (grow_put hu trivial)⟩ r p
theorem cell_lst (w : Wd K mg ρ dh H) {n : Nat} {a : Addr} (hn : dh[n]? = some (.lst ds)) (ha : ρ[n]? = some a) : ∃ xs, H a = some (.lst xs) ∧ RepL K ρ H ds xs := w.cellAt hn ha
end

/-! ### tuples made: the object is told -/
theorem _root_.L2.Inv.tupNew {X : Cx} {pins : List (Addr × Obj)} {σ : L2.St} {H : Hp} {s : Shared} {xs : List V} {its : List Value} {t' : Nat} (I : Inv X pins σ H s) (r : Vals xs its) (z : xs.length ≤ sizeLine) :
    Inv X pins σ (upd H s.heap.objs.size (.frz { cls := .type "tuple", data := .seq its.toArray } (.tup xs))) { s with heap := s.heap.push { cls := .type "tuple", data := .seq its.toArray }, toks := t' } :=
  I.laid (fun b u e => Heap.get?_push_of_some _ e) (Nat.le_refl _) (show ObjOk X.prog X.w _ _ _ (.frz _ (.tup xs)) from ⟨Heap.get?_push_size _ rfl, z, its, r, IsTup.new _ _⟩)
section
variable {X : Cx}
/-- (a, b, ..) -/
def tTupX (t : TA) : TE := fun σ H Q => t σ H fun xs H1 => xs.length ≤ sizeLine ∧ NewT H1 Q xs
theorem pe_tupX {es : List Expr} {t : TA} {x1} {pos : Pos} (h : PA X es t) : PE X (.Tuple es x1 pos) (tTupX t) :=
  ⟨fun pins s σ H Q I hq => wpAny_Tuple_spliced (thn (h.run pos pins s σ H _ I hq) fun us s1 ⟨xs, H1, I1, r, z, q⟩ => ⟨by rw [← r.length]; exact z, .ref s1.heap.objs.size, _, I1.tupNew (t' := s1.toks) r z, rfl, q _ _ (I1.hok.fresh (Nat.le_refl _)) rfl rfl⟩)⟩
/-- t + u -/
def rCatX (K : PySem.W.Frag) : R2 := fun x y H Q => ∃ a b xs ys, x = .ref a ∧ y = .ref b ∧ SqT K H a xs ∧ SqT K H b ys ∧ xs.length + ys.length ≤ sizeLine ∧ (xs = [] → Q (.ref b) H) ∧ (xs ≠ [] → ys = [] → Q (.ref a) H) ∧ (xs ≠ [] → ys ≠ [] → NewT H Q (xs ++ ys))
theorem op_catX : OpR X (binaryOp .Add) (rCatX X.K) := by
  intro pins s σ H x y v u Q I rx ry ⟨a, b, xs, ys, e1, e2, ha, hb, hz, q0, q1, q2⟩
  subst e1 e2
  cases rx
  cases ry
  obtain ⟨its, r1, p1, _⟩ := I.tuple ha
  obtain ⟨its2, r2, p2, _⟩ := I.tuple hb
  by_cases hx : xs = []
  · subst hx
    cases r1
    exact cat_tup0 p1 p2 ⟨.ref b, H, I, rfl, q0 rfl⟩
  · have hv : its ≠ [] := fun e => by
      subst e
      cases r1
      exact hx rfl
    refine HT.cat_tup p1 p2 hv (fun e => ?_) (fun e => ?_) (by rw [← r1.length, ← r2.length]; exact hz)
    · subst e
      cases r2
      exact ⟨.ref a, H, I, rfl, q1 hx rfl⟩
    · have hy : ys ≠ [] := fun z => by
        subst z
        cases r2
        exact e rfl
      exact ⟨.ref s.heap.objs.size, _, I.tupNew (t' := s.toks) (r1.append r2) (by rw [List.length_append]; exact hz), rfl, q2 hx hy _ _ (I.hok.fresh (Nat.le_refl _)) rfl rfl⟩
/-- t[lo:hi] -/
def rSlX (K : PySem.W.Frag) : V → Option Int → Option Int → Hp → VK → Prop := fun x lo hi H Q => ∃ a xs, x = .ref a ∧ SqT K H a xs ∧ (cutV xs lo hi = xs → Q (.ref a) H) ∧ NewT H Q (cutV xs lo hi)
theorem cutV_whole {xs : List V} {lo hi : Option Int} (h : HT.sIx xs.length 0 lo = 0 ∧ HT.sIx xs.length xs.length hi = xs.length) : cutV xs lo hi = xs := by
  unfold cutV
  rw [h.1, h.2, List.drop_zero, Nat.sub_zero, List.take_length]
theorem sl_tupX : SlR X (rSlX X.K) := by
  intro pins s σ H x v vl vu lo hi sl Q I rx hs pl pu ⟨a, xs, e, hx, q1, q2⟩
  subst e
  cases rx
  obtain ⟨its, r, ht, hz⟩ := I.tuple hx
  have hlen : its.toArray.size = xs.length := by rw [List.size_toArray]; exact r.length.symm
  refine ⟨"tuple", _, PyProof.Rows.slot_tuple_getitem.lookup, ht.typeIs, ?_⟩
  by_cases hw : HT.sIx xs.length 0 lo = 0 ∧ HT.sIx xs.length xs.length hi = xs.length
  · exact getItem_tuple_whole ht hs pl pu (by rw [hlen]; exact hw) ⟨.ref a, H, I, rfl, q1 (cutV_whole hw)⟩
  · refine HT.getItem_tuple_cut ht hs pl pu (by rw [hlen]; exact hw) ?_ (by rw [hlen]; exact hz)
    rw [hlen]
    exact ⟨.ref s.heap.objs.size, _, I.tupNew (t' := s.toks) (xs := cutV xs lo hi) ((r.drop (HT.sIx xs.length 0 lo)).take (HT.sIx xs.length xs.length hi - HT.sIx xs.length 0 lo)) (Nat.le_trans (cutV_length xs lo hi) hz), rfl, q2 _ _ (I.hok.fresh (Nat.le_refl _)) rfl rfl⟩
/-- tuple(x) of a list, of a tuple -/
theorem call_tupX : CallR X (.type "tuple") (fun xs H Q => ∃ p ys, xs = [.ref p] ∧ ((SqL X.K H p ys ∧ NewT H Q ys) ∨ (SqT X.K H p ys ∧ Q (.ref p) H))) := by
  intro pins s σ H xs us Q I r ⟨p, ys, e, h⟩
  subst e
  obtain ⟨u, e, rx⟩ := vals1 r
  subst e
  cases rx
  rcases h with ⟨hq, q⟩ | ⟨hq, q⟩
  · obtain ⟨its, r', pl, hz⟩ := I.list hq
    have hlen := r'.length
    refine call_tuple_list pl.isList (fun h' kp => ?_) (by simp only [List.size_toArray] <;> omega)
    have I1 : Inv X pins σ H { s with heap := h' } := I.kept (t' := s.toks) kp
    exact ⟨.ref h'.objs.size, _, I1.tupNew (t' := s.toks) r' hz, rfl, q _ _ (I1.hok.fresh (Nat.le_refl _)) rfl rfl⟩
  · obtain ⟨its, r', pl, hz⟩ := I.tuple hq
    exact call_tuple_same pl ⟨.ref p, H, I, rfl, q⟩
end

/-! ### + -/
def oAdd : D → D → DH → Res D
  | .int i, .int j, h => .ok (.int (i + j)) h
  | .str x, .str y, h => if x.length + y.length ≤ 16777216 then .ok (.str (x ++ y)) h else .bad
  | .tup a, .tup b, h => if a.length + b.length ≤ 16777216 then .ok (.tup (a ++ b)) h else .bad
  | .ref m, .ref n, h => match h[m]?, h[n]? with
    | some (.lst a), some (.lst b) => if a.length + b.length ≤ 16777216 then .ok (.ref h.length) (h ++ [.lst (a ++ b)]) else .bad
    | _, _ => .bad
  | _, _, _ => .bad
def rAddX (K : PySem.W.Frag) : R2 := fun x y H Q => (rI0 (fun i j => .int (i + j)) x y H Q ∨ (∃ i j, x = .str i ∧ y = .str j ∧ i.length + j.length ≤ sizeLine ∧ Q (.str (i ++ j)) H)) ∨ (rCatX K x y H Q ∨ rCat x y H Q)
theorem op_addX {X : Cx} : OpR X (binaryOp .Add) (rAddX X.K) := OpR.or (OpR.or op_add op_add_str) (OpR.or op_catX op_cat)
theorem os_add {K : PySem.W.Frag} {mg : Str → Option Value} : OpS K mg (rAddX K) oAdd := by
  intro ρ dh H x y v u Q W τ w rx ry p
  cases rx with
  | int i =>
    cases ry <;> first | exact p.elim | skip
    exact .inl (.inl ⟨_, _, rfl, rfl, same_val w (.int _) p⟩)
  | str i =>
    cases ry <;> first | exact p.elim | skip
    rename_i j
    simp only [oAdd] at p
    split at p
    · rename_i hl
      exact .inl (.inr ⟨_, _, rfl, rfl, size_lim hl, same_val w (.str _) p⟩)
    · exact p.elim
  | @tup ds a xs ta ra =>
    cases ry <;> first | exact p.elim | skip
    rename_i es b ys tb rb
    simp only [oAdd] at p
    split at p
    · rename_i hl
      refine .inr (.inl ⟨_, _, xs, ys, rfl, rfl, ta.sq, tb.sq, size_lim (by rw [← ra.length, ← rb.length]; exact hl), fun e => ?_, fun _ e => ?_, fun _ _ => new_tup w (ra.append rb) p⟩)
      · subst e
        cases ra
        exact same_val w (.tup tb rb) p
      · subst e
        cases rb
        rw [List.append_nil] at p
        exact same_val w (.tup ta ra) p
    · exact p.elim
  | @ref m a ha =>
    cases ry <;> first | exact p.elim | skip
    rename_i n b hb
    simp only [oAdd] at p
    split at p
    · rename_i ds es e1 e2
      split at p
      · rename_i hl
        obtain ⟨xs, h1, r1⟩ := cell_lst w e1 ha
        obtain ⟨ys, h2, r2⟩ := cell_lst w e2 hb
        exact .inr (.inr ⟨_, _, xs, ys, rfl, rfl, h1, h2, size_lim (by rw [← r1.length, ← r2.length]; exact hl), new_lst w (r1.append r2) p⟩)
      · exact p.elim
    · exact p.elim
  | _ => cases ry <;> exact p.elim

/-! ### ints -/
def oInt (c : Int → Int → Bool) (g : Int → Int → Int) : D → D → DH → Res D
  | .int i, .int j, h => if c i j = true then .ok (.int (g i j)) h else .bad
  | _, _, _ => .bad
theorem os_int {K : PySem.W.Frag} {mg : Str → Option Value} {C : Int → Int → Prop} {c : Int → Int → Bool} {g : Int → Int → Int} (hc : ∀ i j, c i j = true → C i j) : OpS K mg (rI C fun i j => .int (g i j)) (oInt c g) := by
  intro ρ dh H x y v u Q W τ w rx ry p
  cases rx <;> first | (cases ry <;> exact p.elim) | skip
  cases ry <;> first | exact p.elim | skip
  simp only [oInt] at p
  split at p
  · rename_i e
    exact ⟨_, _, rfl, rfl, hc _ _ e, same_val w (.int _) p⟩
  · exact p.elim
def oInt0 (g : Int → Int → Int) : D → D → DH → Res D
  | .int i, .int j, h => .ok (.int (g i j)) h
  | _, _, _ => .bad
theorem os_int0 {K : PySem.W.Frag} {mg : Str → Option Value} {g : Int → Int → Int} : OpS K mg (rI0 fun i j => .int (g i j)) (oInt0 g) := by
  intro ρ dh H x y v u Q W τ w rx ry p
  cases rx <;> first | (cases ry <;> exact p.elim) | skip
  cases ry <;> first | exact p.elim | skip
  exact ⟨_, _, rfl, rfl, same_val w (.int _) p⟩
abbrev oSub := oInt0 fun i j => i - j
abbrev oAnd := oInt0 Builtin.bitAnd
abbrev oOr := oInt0 Builtin.bitOr
abbrev oXor := oInt0 Builtin.bitXor
def cDiv (_ j : Int) : Bool := decide (0 < j ∧ j.natAbs.log2 < 9000)
def cMod (_ j : Int) : Bool := decide (0 < j)
def cPow (i j : Int) : Bool := decide (0 ≤ j ∧ j ≤ 1000000 ∧ i.natAbs < 2 ^ 64)
def cShr (_ j : Int) : Bool := decide (0 ≤ j)
def cMul (i j : Int) : Bool := decide ((-(2 ^ 64) < i ∧ i < 2 ^ 64) ∨ (-(2 ^ 64) < j ∧ j < 2 ^ 64))
abbrev oDiv := oInt cDiv fun i j => i / j
abbrev oMod := oInt cMod fun i j => i % j
abbrev oPow := oInt cPow fun i j => i ^ j.toNat
abbrev oShl := oInt cPow fun i j => i * 2 ^ j.toNat
abbrev oShr := oInt cShr fun i j => i / 2 ^ j.toNat
section
variable {K : PySem.W.Frag} {mg : Str → Option Value}
theorem os_sub : OpS K mg (rI0 fun i j => .int (i - j)) oSub := os_int0
theorem os_and : OpS K mg (rI0 fun i j => .int (Builtin.bitAnd i j)) oAnd := os_int0
theorem os_or : OpS K mg (rI0 fun i j => .int (Builtin.bitOr i j)) oOr := os_int0
theorem os_xor : OpS K mg (rI0 fun i j => .int (Builtin.bitXor i j)) oXor := os_int0
theorem os_div : OpS K mg (rI CDivW fun i j => .int (i / j)) oDiv := os_int fun i j h => by
  have q : 0 < j ∧ j.natAbs.log2 < 9000 := of_decide_eq_true h
  exact q
theorem os_mod : OpS K mg (rI (fun _ j => 0 < j) fun i j => .int (i % j)) oMod := os_int fun _ _ h => of_decide_eq_true h
theorem os_pow : OpS K mg (rI CPow fun i j => .int (i ^ j.toNat)) oPow := os_int fun i j h => by
  have q : 0 ≤ j ∧ j ≤ 1000000 ∧ i.natAbs < 2 ^ 64 := of_decide_eq_true h
  exact q
theorem os_shl : OpS K mg (rI CPow fun i j => .int (i * 2 ^ j.toNat)) oShl := os_int fun i j h => by
  have q : 0 ≤ j ∧ j ≤ 1000000 ∧ i.natAbs < 2 ^ 64 := of_decide_eq_true h
  exact q
theorem os_shr : OpS K mg (rI (fun _ j => 0 ≤ j) fun i j => .int (i / 2 ^ j.toNat)) oShr := os_int fun _ _ h => of_decide_eq_true h
end
/-! ### *: ints, a list times an int -/
open AutoSeq1 (wpAny_loadPart') in
theorem tuple_mul1 (l : Addr) (items : Array Value) (n : Nat) (dd : Option Addr) (sl : Array (Option Value)) (u : Tok) :
    Meets (Builtin.«tuple.__mul__» ⟨[.ref l, .int 1 u], []⟩) (fun _ R s => s.heap.get? l = some { cls := .type "tuple", dict := dd, data := .seq items n, slots := sl } ∧
      R (.ok (.ret (Value.ref l))) s) :=
  .of_wp fun prog w A R s h => by
    obtain ⟨hp, g, d, tk, os⟩ := s
    obtain ⟨hl, h⟩ := h
    have f1 := AutoSeq1.idx_int
    wp_walk using wpAny_loadPart' hl
    repeat (first
      | (refine wpAny_ite_false (decide_eq_false (by decide)) ?_; wp_walk using wpAny_loadPart' hl)
      | (refine wpAny_ite_true (by simp) ?_; wp_walk using wpAny_loadPart' hl))
    all_goals exact ⟨_, rfl, h⟩
def rRepX (K : PySem.W.Frag) : R2 := fun x y H Q => ∃ l k xs, x = .ref l ∧ y = .int k ∧ SqT K H l xs ∧ xs ≠ [] ∧ 1 ≤ k ∧ k ≤ 1000 ∧ xs.length ≤ 1000 ∧ (k = 1 → Q (.ref l) H) ∧ (k ≠ 1 → NewT H Q (List.replicate k.toNat xs).flatten)
theorem op_repX {X : Cx} : OpR X (binaryOp .Mult) (rRepX X.K) := by
  intro pins s σ H x y v u Q I rx ry h
  obtain ⟨l, k, xs, rfl, rfl, hT, hne, h1, h2, hz, q1, q⟩ := h
  cases rx
  obtain ⟨t, rfl⟩ := ry
  obtain ⟨its, r, ⟨⟨cls, dd, data, sl⟩, ho, hc, n, hd⟩, hs⟩ := I.tuple hT
  simp only at hc hd
  subst hc hd
  by_cases k1 : k = 1
  · subst k1
    exact wpAny_binaryOp_repeat_ref (T := "tuple") (U := "int") (by decide) ⟨_, ho, rfl⟩ (fun s' => typeIs_int s' 1 t) noFill_tuple_mul F.fills_int_mul F.slot_int_rmul repeat_tuple F.slot_int_index.lookup
      (call_meets F.slot_int_rmul (typeIs_int s 1 t) F.entry_int_rmul (F.args_int_rmul_2 _ _) (int_rmul_tuple 1 t l its.toArray n dd sl)
        ⟨ho, rfl, ⟨_, ho, rfl⟩, call_meets F.slot_tuple_mul ⟨_, ho, rfl⟩ F.entry_tuple_mul (F.args_tuple_mul_2 _ _) (tuple_mul1 l its.toArray n dd sl t) ⟨ho, ⟨.ref l, H, I, rfl, q1 rfl⟩⟩⟩)
  have hle : its.length = xs.length := r.length.symm
  have hn : its ≠ [] := fun e => hne (by
    rw [e] at hle
    exact List.eq_nil_of_length_eq_zero hle.symm)
  have hi : its.toArray.isEmpty = false := by
    cases its with
    | nil => exact absurd rfl hn
    | cons a b => rfl
  have hsz0 : its.toArray.size = xs.length := by rw [List.size_toArray, hle]
  have hm : ((its.toArray.size : Nat) : Int) * k ≤ 1000000 := by
    rw [hsz0]
    have a1 : ((xs.length : Nat) : Int) * k ≤ 1000 * k := Int.mul_le_mul_of_nonneg_right (by omega) (by omega)
    omega
  have flen : (List.replicate k.toNat its).flatten.length ≤ sizeLine := by
    rw [PyProof.Rows.lm_len_rep_flat, hle, sizeLine_eq]
    have a1 : k.toNat * xs.length ≤ 1000 * 1000 := Nat.mul_le_mul (by omega) hz
    omega
  have c0 : (decide (k < -(2 ^ 63)) || decide (k ≥ 2 ^ 63)) = false := by
    rw [decide_eq_false (by omega), decide_eq_false (by omega)] <;> rfl
  have c1 : (its.toArray.isEmpty || k == 1) = false := by
    rw [hi, Bool.false_or]
    exact beq_eq_false_iff_ne.mpr (by omega)
  have c2 : (decide (k ≤ 0) || its.toArray.isEmpty) = false := by
    rw [hi, Bool.or_false]
    exact decide_eq_false (by omega)
  have c4 : Builtin.Tuple.tupleTooMany (((its.toArray.size : Nat) : Int) * k) = false := by
    unfold Builtin.Tuple.tupleTooMany
    rw [sizeLine_eq]
    exact decide_eq_false (by omega)
  refine wpAny_binaryOp_repeat_ref (T := "tuple") (U := "int") (by decide) ⟨_, ho, rfl⟩ (fun s' => typeIs_int s' k t) noFill_tuple_mul F.fills_int_mul F.slot_int_rmul repeat_tuple F.slot_int_index.lookup
    (call_meets F.slot_int_rmul (typeIs_int s k t) F.entry_int_rmul (F.args_int_rmul_2 _ _) (int_rmul_tuple k t l its.toArray n dd sl)
      ⟨ho, rfl, ⟨_, ho, rfl⟩, call_meets F.slot_tuple_mul ⟨_, ho, rfl⟩ F.entry_tuple_mul (F.args_tuple_mul_2 _ _) (tuple_mulW l its.toArray n dd sl k t c0 c1 c2 (by omega) c4 (by rw [size_rep, List.size_toArray]; exact flen)) ⟨ho, ?_⟩⟩)
  rw [size_rep]
  exact ⟨.ref s.heap.objs.size, _, I.tupNew (t' := s.toks) (r.rep k.toNat) (by rw [PyProof.Rows.lm_len_rep_flat, sizeLine_eq]; have a1 : k.toNat * xs.length ≤ 1000 * 1000 := Nat.mul_le_mul (by omega) hz; omega), rfl, q k1 _ _ (I.hok.fresh (Nat.le_refl _)) rfl rfl⟩
def oMul : D → D → DH → Res D
  | .int i, .int j, h => if cMul i j = true then .ok (.int (i * j)) h else .bad
  | .ref n, .int k, h => match h[n]? with
    | some (.lst a) => if -(2 ^ 62) ≤ k ∧ k < 2 ^ 62 ∧ a.length * k.toNat ≤ 16777216 then .ok (.ref h.length) (h ++ [.lst (List.replicate k.toNat a).flatten]) else .bad
    | _ => .bad
  | .tup a, .int k, h => if a ≠ [] ∧ 1 ≤ k ∧ k ≤ 1000 ∧ a.length ≤ 1000 then .ok (.tup (List.replicate k.toNat a).flatten) h else .bad
  | _, _, _ => .bad
def rMulX (K : PySem.W.Frag) : R2 := fun x y H Q => (rI CMul (fun i j => .int (i * j)) x y H Q ∨ rRep x y H Q) ∨ rRepX K x y H Q
theorem op_mulX {X : Cx} : OpR X (binaryOp .Mult) (rMulX X.K) := OpR.or (OpR.or op_mul op_rep) op_repX
theorem os_mul {K : PySem.W.Frag} {mg : Str → Option Value} : OpS K mg (rMulX K) oMul := by
  intro ρ dh H x y v u Q W τ w rx ry p
  cases rx with
  | int i =>
    cases ry <;> first | exact p.elim | skip
    simp only [oMul] at p
    split at p
    · rename_i e
      rename_i j
      have q : (-(2 ^ 64) < i ∧ i < 2 ^ 64) ∨ (-(2 ^ 64) < j ∧ j < 2 ^ 64) := of_decide_eq_true e
      exact .inl (.inl ⟨_, _, rfl, rfl, q, same_val w (.int _) p⟩)
    · exact p.elim
  | @ref m a ha =>
    cases ry <;> first | exact p.elim | skip
    rename_i k
    simp only [oMul] at p
    split at p
    · rename_i ds e1
      split at p
      · rename_i hl
        obtain ⟨h1, h2, h3⟩ := hl
        obtain ⟨xs, hx, r1⟩ := cell_lst w e1 ha
        refine .inl (.inr ⟨_, k, xs, rfl, rfl, hx, by omega, by omega, size_lim (by rw [← r1.length]; exact h3), new_lst w (r1.rep k.toNat) p⟩)
      · exact p.elim
    · exact p.elim
  | @tup ds a xs t r =>
    cases ry <;> first | exact p.elim | skip
    rename_i k
    simp only [oMul] at p
    split at p
    · rename_i hl
      obtain ⟨h0, h1, h2, h3⟩ := hl
      refine .inr ⟨a, k, xs, rfl, rfl, t.sq, fun e => ?_, h1, h2, by rw [← r.length]; exact h3, fun e => ?_, fun _ => new_tup w (r.rep k.toNat) p⟩
      · subst e
        cases r
        exact h0 rfl
      · subst e
        have e2 : (List.replicate (1 : Int).toNat ds).flatten = ds := by simp
        rw [e2] at p
        exact same_val w (.tup t r) p
    · exact p.elim
  | _ => cases ry <;> exact p.elim
/-! ### one-place -/
def oNeg : D → DH → Res D
  | .int i, h => .ok (.int (-i)) h
  | _, _ => .bad
theorem de_neg {X : Cx} {W : WX} {a : Expr} {fa : FE} {pos : Pos} (ha : PE X a (rE X.K X.mg W fa)) : PE X (.UnaryOp .USub a pos) (rE X.K X.mg W (dUn oNeg fa)) :=
  PE.weak (pe_un un_neg ha) fun _ _ _ h => rd_one (r := rU fun i => .int (-i)) (fun ρ dh H x v Q W τ w rx p => by
    cases rx <;> first | exact p.elim | skip
    exact ⟨_, rfl, same_val w (.int _) p⟩) h

/-! ### order -/
def oOrd (g : Int → Int → Bool) : D → D → DH → Res D
  | .int i, .int j, h => .ok (.bl (g i j)) h
  | _, _, _ => .bad
theorem os_ord {K : PySem.W.Frag} {mg : Str → Option Value} {g : Int → Int → Bool} : OpS K mg (rI0 fun i j => .bl (g i j)) (oOrd g) := by
  intro ρ dh H x y v u Q W τ w rx ry p
  cases rx <;> first | (cases ry <;> exact p.elim) | skip
  cases ry <;> first | exact p.elim | skip
  exact ⟨_, _, rfl, rfl, same_val w (.bl _) p⟩
abbrev oLt := oOrd fun i j => decide (i < j)
abbrev oLe := oOrd fun i j => decide (i ≤ j)
abbrev oGt := oOrd fun i j => decide (j < i)
abbrev oGe := oOrd fun i j => decide (j ≤ i)

/-! ### is None, is True -/
def oIsN : D → D → DH → Res D
  | .non, .non, h => .ok (.bl true) h
  | _, .non, h => .ok (.bl false) h
  | .bl a, .bl b, h => .ok (.bl (decide (a = b))) h
  | _, .bl b, h => .ok (.bl false) h
  | _, _, _ => .bad
def oNotN : D → D → DH → Res D
  | .non, .non, h => .ok (.bl false) h
  | _, .non, h => .ok (.bl true) h
  | .bl a, .bl b, h => .ok (.bl (!decide (a = b))) h
  | _, .bl b, h => .ok (.bl true) h
  | _, _, _ => .bad
def rIsX : R2 := fun x y H Q => (y = .non ∧ Q (.bl (decide (x = .non))) H) ∨ (∃ b, y = .bl b ∧ Q (.bl (decide (x = .bl b))) H)
def rNotX : R2 := fun x y H Q => (y = .non ∧ Q (.bl (!decide (x = .non))) H) ∨ (∃ b, y = .bl b ∧ Q (.bl (!decide (x = .bl b))) H)
theorem isSame_bl {M : Model} {A : Around} {E : Value → Shared → Prop} {s : Shared} {v : Value} {b : Bool} {Q : Bool → Shared → Prop} (hv : ∀ n, v ≠ .builtin n) (h : Q (v == .bool b) s) : wpAny M A (isSame v (.bool b)) Q E s := by
  cases v <;> first | exact wpAny_pure h | exact absurd rfl (hv _)
theorem relV_bl {x : V} {v : Value} (r : RelV x v) (b : Bool) : (v == Value.bool b) = decide (x = .bl b) := by
  cases x <;> first
    | (cases r; first | rfl | (rename_i c; cases b <;> cases c <;> rfl))
    | (obtain ⟨t, rfl⟩ := r; rfl)
theorem relV_nobi {x : V} {v : Value} (r : RelV x v) : ∀ n, v ≠ .builtin n := by
  intro n e
  subst e
  cases x <;> first | exact nomatch r | (obtain ⟨t, q⟩ := r; exact nomatch q)
theorem op_isX {X : Cx} : OpR X (compareOp .Is) rIsX := by
  refine OpR.or op_isN ?_
  intro pins s σ H x y v u Q I rx ry h
  obtain ⟨b, rfl, q⟩ := h
  cases (show u = Value.bool b from ry)
  show wpAny _ _ (do let r ← isSame v (.bool b); pure (Value.bool r)) _ _ _
  refine wpAny_bind (isSame_bl (relV_nobi rx) (wpAny_pure ?_))
  exact ⟨.bl _, H, I, rfl, by rw [relV_bl rx]; exact q⟩
theorem op_notX {X : Cx} : OpR X (compareOp .IsNot) rNotX := by
  refine OpR.or op_notN ?_
  intro pins s σ H x y v u Q I rx ry h
  obtain ⟨b, rfl, q⟩ := h
  cases (show u = Value.bool b from ry)
  show wpAny _ _ (do let r ← isSame v (.bool b); pure (Value.bool (!r))) _ _ _
  refine wpAny_bind (isSame_bl (relV_nobi rx) (wpAny_pure ?_))
  exact ⟨.bl _, H, I, rfl, by rw [relV_bl rx]; exact q⟩
theorem os_is {K : PySem.W.Frag} {mg : Str → Option Value} : OpS K mg rIsX oIsN := by
  intro ρ dh H x y v u Q W τ w rx ry p
  cases ry with
  | non => cases rx <;> exact .inl ⟨rfl, same_val w (.bl _) p⟩
  | bl b =>
    refine .inr ⟨b, rfl, ?_⟩
    cases rx with
    | bl a =>
      rw [show decide (V.bl a = V.bl b) = decide (a = b) by cases a <;> cases b <;> rfl]
      exact same_val w (.bl _) p
    | _ => exact same_val w (.bl _) p
  | _ => cases rx <;> exact p.elim
theorem os_not {K : PySem.W.Frag} {mg : Str → Option Value} : OpS K mg rNotX oNotN := by
  intro ρ dh H x y v u Q W τ w rx ry p
  cases ry with
  | non => cases rx <;> exact .inl ⟨rfl, same_val w (.bl _) p⟩
  | bl b =>
    refine .inr ⟨b, rfl, ?_⟩
    cases rx with
    | bl a =>
      rw [show decide (V.bl a = V.bl b) = decide (a = b) by cases a <;> cases b <;> rfl]
      exact same_val w (.bl _) p
    | _ => exact same_val w (.bl _) p
  | _ => cases rx <;> exact p.elim

/-! ### == of data -/
mutual
/-- the data as the library tells it; by fuel, for lists in lists -/
def toP (h : DH) : Nat → D → Option PyData
  | 0, _ => none
  | _ + 1, .non => some .none
  | _ + 1, .bl b => some (.bool b)
  | _ + 1, .int i => some (.int i)
  | _ + 1, .str x => some (.str x)
  | n + 1, .tup ds => (toPs h n ds).map .tuple
  | n + 1, .rol ds => (toPs h n ds).map .list
  | n + 1, .ref k => match h[k]? with
    | some (.lst ds) => (toPs h n ds).map .list
    | _ => none
  | _ + 1, .exn0 .. => none
  | _ + 1, .exn1 .. => none
termination_by n _ => (n, 0)
def toPs (h : DH) : Nat → List D → Option (List PyData)
  | _, [] => some []
  | n, d :: ds => match toP h n d, toPs h n ds with
    | some x, some xs => some (x :: xs)
    | _, _ => none
termination_by n ds => (n, ds.length + 1)
end
section
variable {K : PySem.W.Frag} {mg : Str → Option Value} {ρ : List Addr} {H : Hp} {dh : DH}
mutual
theorem toP_dp (w : Wd K mg ρ dh H) : ∀ (n : Nat) {d : D} {v : V} {q : PyData}, Rep K ρ H d v → toP dh n d = some q → Dp K H v q
  | 0, _, _, _, _, e => by simp [toP] at e
  | n + 1, _, _, _, .non, e => by simp [toP] at e; subst e; exact .non
  | n + 1, _, _, _, .bl b, e => by simp [toP] at e; subst e; exact .bl b
  | n + 1, _, _, _, .int i, e => by simp [toP] at e; subst e; exact .int i
  | n + 1, _, _, _, .str x, e => by simp [toP] at e; subst e; exact .str x
  | n + 1, _, _, _, .tup t r, e => by
    simp only [toP, Option.map_eq_some_iff] at e
    obtain ⟨qs, e1, rfl⟩ := e
    exact .tup t.sq (toPs_dp w n r e1)
  | n + 1, _, _, _, .rol t r, e => by
    simp only [toP, Option.map_eq_some_iff] at e
    obtain ⟨qs, e1, rfl⟩ := e
    exact .lst t.sq (toPs_dp w n r e1)
  | n + 1, _, _, _, .ref ha, e => by
    simp only [toP] at e
    split at e
    · rename_i ds hk
      simp only [Option.map_eq_some_iff] at e
      obtain ⟨qs, e1, rfl⟩ := e
      obtain ⟨xs, h1, r1⟩ := cell_lst w hk ha
      exact .lst (SqL.of h1) (toPs_dp w n r1 e1)
    · cases e
  | n + 1, _, _, _, .exn0, e => by simp [toP] at e
  | n + 1, _, _, _, .exn1 .., e => by simp [toP] at e
termination_by n d _ _ _ _ => (n, 0)
theorem toPs_dp (w : Wd K mg ρ dh H) : ∀ (n : Nat) {ds : List D} {vs : List V} {qs : List PyData}, RepL K ρ H ds vs → toPs dh n ds = some qs → DpAll K H vs qs
  | n, _, _, _, .nil, e => by simp [toPs] at e; subst e; exact .nil
  | n, _, _, _, .cons (ds := ds) h r, e => by
    simp only [toPs] at e
    split at e
    · rename_i x xs e1 e2
      cases e
      exact .cons (toP_dp w n h e1) (toPs_dp w n r e2)
    · cases e
termination_by n ds _ _ _ _ => (n, ds.length + 1)
end
end
def peq (h : DH) (x y : D) : Option Bool := match toP h 66 x, toP h 66 y with
  | some d, some e => if SeqAt.shaped d = true ∧ SeqAt.shaped e = true then some (PyData.eqv d e) else none
  | _, _ => none
/-- ==: flat ones at once; the rest by data -/
def scalD : D → D → Option Bool
  | .int i, .int j => some (decide (i = j))
  | .str i, .str j => some (decide (i = j))
  | .bl i, .bl j => some (decide (i = j))
  | .non, .non => some true
  | .non, .int _ => some false
  | .int _, .non => some false
  | .non, .bl _ => some false
  | .bl _, .non => some false
  | .non, .str _ => some false
  | .str _, .non => some false
  | .int _, .str _ => some false
  | .str _, .int _ => some false
  | .bl _, .str _ => some false
  | .str _, .bl _ => some false
  | _, _ => none
def oEq (x y : D) (h : DH) : Res D := match scalD x y with
  | some b => .ok (.bl b) h
  | none => match peq h x y with
    | some b => .ok (.bl b) h
    | none => .bad
def oNe (x y : D) (h : DH) : Res D := match scalD x y with
  | some b => .ok (.bl (!b)) h
  | none => match peq h x y with
    | some b => .ok (.bl (!b)) h
    | none => .bad
theorem scalD_rep {K : PySem.W.Frag} {ρ : List Addr} {H : Hp} {x y : D} {v u : V} {b : Bool} (rx : Rep K ρ H x v) (ry : Rep K ρ H y u) (e : scalD x y = some b) : scal v u = true ∧ b = decide (v = u) := by
  cases rx <;> cases ry <;> simp only [scalD] at e <;> first
    | (cases e; refine ⟨rfl, ?_⟩; first | rfl | (rename_i a b; by_cases z : a = b <;> simp [z]) | simp)
    | (cases e)
def rEqX (K : PySem.W.Frag) : R2 := fun x y H Q => rEq x y H Q ∨ rEqD K x y H Q
def rNeX (K : PySem.W.Frag) : R2 := fun x y H Q => rNe x y H Q ∨ rNeD K x y H Q
theorem op_eqX {X : Cx} (hu : X.A.units + 64 < cLine) : OpR X (compareOp .Eq) (rEqX X.K) := OpR.or op_eq (op_eqD hu)
theorem op_neX {X : Cx} (hu : X.A.units + 64 < cLine) : OpR X (compareOp .NotEq) (rNeX X.K) := OpR.or op_ne (op_neD hu)
section
variable {K : PySem.W.Frag} {mg : Str → Option Value}
theorem peq_dp {ρ : List Addr} {H : Hp} {dh : DH} {x y : D} {v u : V} {b : Bool} (w : Wd K mg ρ dh H) (rx : Rep K ρ H x v) (ry : Rep K ρ H y u) (e : peq dh x y = some b) :
    ∃ d q, Dp K H v d ∧ Dp K H u q ∧ SeqAt.shaped d = true ∧ SeqAt.shaped q = true ∧ b = PyData.eqv d q := by
  unfold peq at e
  split at e
  · rename_i d q e1 e2
    split at e
    · rename_i hs
      cases e
      exact ⟨d, q, toP_dp w 66 rx e1, toP_dp w 66 ry e2, hs.1, hs.2, rfl⟩
    · cases e
  · cases e
theorem os_eq : OpS K mg (rEqX K) oEq := by
  intro ρ dh H x y v u Q W τ w rx ry p
  unfold oEq at p
  split at p
  · rename_i b e
    obtain ⟨h1, rfl⟩ := scalD_rep rx ry e
    exact .inl ⟨h1, same_val w (.bl _) p⟩
  · split at p
    · rename_i b e
      obtain ⟨d, q, h1, h2, h3, h4, rfl⟩ := peq_dp w rx ry e
      exact .inr ⟨d, q, h1, h2, h3, h4, same_val w (.bl _) p⟩
    · exact p.elim
theorem os_ne : OpS K mg (rNeX K) oNe := by
  intro ρ dh H x y v u Q W τ w rx ry p
  unfold oNe at p
  split at p
  · rename_i b e
    obtain ⟨h1, rfl⟩ := scalD_rep rx ry e
    exact .inl ⟨h1, same_val w (.bl _) p⟩
  · split at p
    · rename_i b e
      obtain ⟨d, q, h1, h2, h3, h4, rfl⟩ := peq_dp w rx ry e
      exact .inr ⟨d, q, h1, h2, h3, h4, same_val w (.bl _) p⟩
    · exact p.elim
end
end DL

/-! The data layer: comparisons in chains, and, or, not, truth, arguments, displays, subscripts, slices, calls of built-ins. -/
namespace DL
open PySem PySem.Spec L2
open PyProof.Rows hiding St

section
variable {α β γ δ : Type} {K : PySem.W.Frag} {mg : Str → Option Value} {R : List Addr → Hp → α → β → Prop} {R2 : List Addr → Hp → γ → δ → Prop} {W : WX} {τ : L2.St} {ρ : List Addr} {H : Hp}
/-- a part's result, then the rest -/
theorem Pst.bind {r : Res α} {g : α → DH → Res γ} {P : δ → Hp → Prop} (p : Pst K mg R2 W τ ρ H P (r.bind g)) :
    Pst K mg R W τ ρ H (fun b H1 => ∃ x dh ρ', Grow ρ H ρ' H1 ∧ Wd K mg ρ' dh H1 ∧ R ρ' H1 x b ∧ Pst K mg R2 W τ ρ' H1 P (g x dh)) r := by
  cases r with
  | ok a dh => exact fun ρ' H' b g' w' r' => ⟨a, dh, ρ', g', w', r', Pst.grow g' p⟩
  | exc e dh => exact p
  | bad => exact p
end
/-- the end of a way: a value as it stands -/
theorem Pst.done {K : PySem.W.Frag} {mg : Str → Option Value} {W : WX} {τ : L2.St} {ρ : List Addr} {H : Hp} {dh : DH} {Q : Bool → Hp → Prop} {b : Bool} (w : Wd K mg ρ dh H) (p : Pst K mg (fun _ _ a b => a = b) W τ ρ H Q (.ok b dh)) : Q b H := p _ _ _ (Grow.refl _ _) w rfl

/-! ### a < b < c -/
def dChain (op op' : D → D → DH → Res D) (fa fb fc : FE) : FE := fun σ h => (fa σ h).bind fun x h1 => (fb σ h1).bind fun y h2 => (op x y h2).bind fun z h3 => match z with
  | .bl true => (fc σ h3).bind fun w h4 => op' y w h4
  | .bl false => .ok (.bl false) h3
  | _ => .bad
section
variable {X : Cx} {W : WX} {K : PySem.W.Frag} {mg : Str → Option Value} {τ : L2.St} {H : Hp} {Q : VK}
theorem rd_chain {fa fb fc : FE} {op op' : D → D → DH → Res D} {r r' : R2} (ho : OpS K mg r op) (ho' : OpS K mg r' op') (h : rE K mg W (dChain op op' fa fb fc) τ H Q) : tChain r r' (rE K mg W fa) (rE K mg W fb) (rE K mg W fc) τ H Q := by
  obtain ⟨σ, dh, ρ, w, s, p⟩ := h
  refine ⟨σ, dh, ρ, w, s, ?_⟩
  refine Pst.mono (Pst.bind (R := Rep K) p) ?_
  rintro v H1 ⟨x, h1, ρ1, g1, w1, rx, p1⟩
  refine ⟨σ, h1, ρ1, w1, s.grow g1, ?_⟩
  refine Pst.mono (Pst.bind (R := Rep K) p1) ?_
  rintro u H2 ⟨y, h2, ρ2, g2, w2, ry, p2⟩
  refine ho ρ2 h2 H2 x y v u _ W τ w2 (rx.grow g2) ry ?_
  refine Pst.mono (Pst.bind (R := Rep K) p2) ?_
  rintro z H3 ⟨b, h3, ρ3, g3, w3, rb, p3⟩
  cases rb with
  | bl k =>
    refine ⟨k, rfl, ?_⟩
    cases k with
    | true =>
      rw [if_pos rfl]
      refine ⟨σ, h3, ρ3, w3, s.grow (g1.trans (g2.trans g3)), ?_⟩
      refine Pst.mono (Pst.bind (R := Rep K) p3) ?_
      rintro t H4 ⟨c, h4, ρ4, g4, w4, rc, p4⟩
      exact ho' ρ4 h4 H4 y c u t Q W τ w4 (ry.grow (g3.trans g4)) rc p4
    | false =>
      rw [if_neg Bool.false_ne_true]
      exact same_val w3 (.bl _) p3
  | _ => exact p3.elim
theorem de_chain {op op' : CmpOp} {r r' : R2} {dop dop' : D → D → DH → Res D} {a b c : Expr} {fa fb fc : FE} {pos : Pos} (ho : OpR X (compareOp op) r) (ho' : OpR X (compareOp op') r') (hs : OpS X.K X.mg r dop) (hs' : OpS X.K X.mg r' dop')
    (ha : PE X a (rE X.K X.mg W fa)) (hb : PE X b (rE X.K X.mg W fb)) (hc : PE X c (rE X.K X.mg W fc)) (hm : lastMarks [op, op'] [b, c] = false := by with_unfolding_all rfl) :
    PE X (.Compare a [op, op'] [b, c] pos) (rE X.K X.mg W (dChain dop dop' fa fb fc)) := PE.weak (pe_chain ho ho' ha hb hc hm) fun _ _ _ h => rd_chain hs hs' h
theorem dt_chain {op op' : CmpOp} {r r' : R2} {dop dop' : D → D → DH → Res D} {a b c : Expr} {fa fb fc : FE} {pos : Pos} (ho : OpR X (compareOp op) r) (ho' : OpR X (compareOp op') r') (hs : OpS X.K X.mg r dop) (hs' : OpS X.K X.mg r' dop')
    (ha : PE X a (rE X.K X.mg W fa)) (hb : PE X b (rE X.K X.mg W fb)) (hc : PE X c (rE X.K X.mg W fc)) (hm : lastMarks [op, op'] [b, c] = false := by with_unfolding_all rfl) :
    PT X (.Compare a [op, op'] [b, c] pos) (rT X.K X.mg W (dTest (dChain dop dop' fa fb fc))) := PT.weak (pt_chain ho ho' ha hb hc hm) fun _ _ _ h => rd_chain hs hs' (rd_test h)
theorem dt_cmp {op : CmpOp} {r : R2} {dop : D → D → DH → Res D} {a b : Expr} {fa fb : FE} {pos : Pos} (ho : OpR X (compareOp op) r) (hs : OpS X.K X.mg r dop) (ha : PE X a (rE X.K X.mg W fa)) (hb : PE X b (rE X.K X.mg W fb)) (hm : behindInMarks op b = false := by first | exact nobehind _ (by decide) (by decide) | rfl | with_unfolding_all rfl) :
    PT X (.Compare a [op] [b] pos) (rT X.K X.mg W (dTest (dBin dop fa fb))) := PT.weak (pt_cmpR ho ha hb hm) fun _ _ _ h => rd_two hs (rd_test h)
end

/-! ### and, or, not -/
def dAndT (f g : FT) : FT := fun σ h => (f σ h).bind fun c h1 => if c = true then g σ h1 else .ok false h1
def dOrT (f g : FT) : FT := fun σ h => (f σ h).bind fun c h1 => if c = true then .ok true h1 else g σ h1
def dNotT (f : FT) : FT := fun σ h => (f σ h).bind fun c h1 => .ok (!c) h1
def dAndV (f g : FE) : FE := fun σ h => (f σ h).bind fun x h1 => match x with
  | .bl true => g σ h1
  | .bl false => .ok (.bl false) h1
  | _ => .bad
def dOrV (f g : FE) : FE := fun σ h => (f σ h).bind fun x h1 => match x with
  | .bl true => .ok (.bl true) h1
  | .bl false => g σ h1
  | _ => .bad
def dNotV (f : FE) : FE := dUn (fun x h => match x with
  | .bl b => .ok (.bl (!b)) h
  | _ => .bad) f
def dIfE (c : FT) (f g : FE) : FE := fun σ h => (c σ h).bind fun b h1 => if b = true then f σ h1 else g σ h1
section
variable {X : Cx} {W : WX} {a b : Expr} {rest : List Expr} {pos : Pos}
theorem dw_and1 {f : FT} (h : PT X a (rT X.K X.mg W f)) : PW X (.BoolOp .And [a] pos) (rT X.K X.mg W f) := pw_and1 h
theorem dw_or1 {f : FT} (h : PT X a (rT X.K X.mg W f)) : PW X (.BoolOp .Or [a] pos) (rT X.K X.mg W f) := pw_or1 h
theorem dw_and {f g : FT} (ha : PT X a (rT X.K X.mg W f)) (hb : PW X (.BoolOp .And (b :: rest) pos) (rT X.K X.mg W g)) : PW X (.BoolOp .And (a :: b :: rest) pos) (rT X.K X.mg W (dAndT f g)) := by
  refine PW.weak (pw_and ha hb) fun τ H Q h => ?_
  refine rd.mono (fun c H1 => ?_) (rd_bind (R := fun _ _ a b => a = b) (g := fun c σ h1 => if c = true then g σ h1 else .ok false h1) h)
  rintro ⟨x, σ, dh, ρ, w, s, rfl, p⟩
  cases x
  · rw [if_neg Bool.false_ne_true] at p ⊢
    exact p.done w
  · rw [if_pos rfl] at p ⊢
    exact ⟨σ, dh, ρ, w, s, p⟩
theorem dw_or {f g : FT} (ha : PT X a (rT X.K X.mg W f)) (hb : PW X (.BoolOp .Or (b :: rest) pos) (rT X.K X.mg W g)) : PW X (.BoolOp .Or (a :: b :: rest) pos) (rT X.K X.mg W (dOrT f g)) := by
  refine PW.weak (pw_or ha hb) fun τ H Q h => ?_
  refine rd.mono (fun c H1 => ?_) (rd_bind (R := fun _ _ a b => a = b) (g := fun c σ h1 => if c = true then .ok true h1 else g σ h1) h)
  rintro ⟨x, σ, dh, ρ, w, s, rfl, p⟩
  cases x
  · rw [if_neg Bool.false_ne_true] at p ⊢
    exact ⟨σ, dh, ρ, w, s, p⟩
  · rw [if_pos rfl] at p ⊢
    exact p.done w
theorem dt_not {f : FT} (ha : PT X a (rT X.K X.mg W f)) : PT X (.UnaryOp .Not a pos) (rT X.K X.mg W (dNotT f)) := by
  refine PT.weak (pt_not ha) fun τ H Q h => ?_
  refine rd.mono (fun c H1 => ?_) (rd_bind (R := fun _ _ a b => a = b) (g := fun c σ h1 => .ok (!c) h1) h)
  rintro ⟨x, σ, dh, ρ, w, s, rfl, p⟩
  exact p.done w
theorem de_one {op} {f : FE} (h : PE X a (rE X.K X.mg W f)) : PE X (.BoolOp op [a] pos) (rE X.K X.mg W f) := pe_one h
theorem de_and {f g : FE} (ha : PE X a (rE X.K X.mg W f)) (hb : PE X (.BoolOp .And (b :: rest) pos) (rE X.K X.mg W g)) : PE X (.BoolOp .And (a :: b :: rest) pos) (rE X.K X.mg W (dAndV f g)) := by
  refine PE.weak (pe_and ha hb) fun τ H Q h => ?_
  refine rd.mono (fun c H1 => ?_) (rd_bind (R := Rep X.K) (g := fun x σ h1 => match x with | .bl true => g σ h1 | .bl false => .ok (.bl false) h1 | _ => .bad) h)
  rintro ⟨x, σ, dh, ρ, w, s, rx, p⟩
  cases rx with
  | bl k =>
    refine ⟨k, rfl, ?_⟩
    cases k
    · rw [if_neg Bool.false_ne_true]
      exact same_val w (.bl _) p
    · rw [if_pos rfl]
      exact ⟨σ, dh, ρ, w, s, p⟩
  | _ => exact p.elim
theorem de_or {f g : FE} (ha : PE X a (rE X.K X.mg W f)) (hb : PE X (.BoolOp .Or (b :: rest) pos) (rE X.K X.mg W g)) : PE X (.BoolOp .Or (a :: b :: rest) pos) (rE X.K X.mg W (dOrV f g)) := by
  refine PE.weak (pe_or ha hb) fun τ H Q h => ?_
  refine rd.mono (fun c H1 => ?_) (rd_bind (R := Rep X.K) (g := fun x σ h1 => match x with | .bl true => .ok (.bl true) h1 | .bl false => g σ h1 | _ => .bad) h)
  rintro ⟨x, σ, dh, ρ, w, s, rx, p⟩
  cases rx with
  | bl k =>
    refine ⟨k, rfl, ?_⟩
    cases k
    · rw [if_neg Bool.false_ne_true]
      exact ⟨σ, dh, ρ, w, s, p⟩
    · rw [if_pos rfl]
      exact same_val w (.bl _) p
  | _ => exact p.elim
theorem de_not {f : FE} (ha : PE X a (rE X.K X.mg W f)) : PE X (.UnaryOp .Not a pos) (rE X.K X.mg W (dNotV f)) :=
  PE.weak (pe_not ha) fun _ _ _ h => rd_one (r := fun x H Q => ∃ c, x = .bl c ∧ Q (.bl (!c)) H) (fun ρ dh H x v Q W τ w rx p => by
    cases rx <;> first | exact p.elim | skip
    exact ⟨_, rfl, same_val w (.bl _) p⟩) h
theorem de_if {c : Expr} {t : FT} {f g : FE} (hc : PT X c (rT X.K X.mg W t)) (ha : PE X a (rE X.K X.mg W f)) (hb : PE X b (rE X.K X.mg W g)) : PE X (.IfExp c a b pos) (rE X.K X.mg W (dIfE t f g)) := by
  refine PE.weak (pe_ifExp hc ha hb) fun τ H Q h => ?_
  refine rd.mono (fun c H1 => ?_) (rd_bind (R := fun _ _ a b => a = b) (g := fun b σ h1 => if b = true then f σ h1 else g σ h1) h)
  rintro ⟨x, σ, dh, ρ, w, s, rfl, p⟩
  cases x
  · rw [if_neg Bool.false_ne_true] at p ⊢
    exact ⟨σ, dh, ρ, w, s, p⟩
  · rw [if_pos rfl] at p ⊢
    exact ⟨σ, dh, ρ, w, s, p⟩
end

/-! ### a value's truth -/
def truD (h : DH) : D → Option Bool
  | .non => some false
  | .bl b => some b
  | .int i => some (i != 0)
  | .str x => if x.length ≤ 16777216 then some (x.length != 0) else none
  | .tup ds => some (!ds.isEmpty)
  | .rol ds => some (!ds.isEmpty)
  | .ref n => match h[n]? with
    | some (.lst ds) => some (!ds.isEmpty)
    | some (.dic kvs) => some (!kvs.isEmpty)
    | _ => none
  | .exn0 .. => none
  | .exn1 .. => none
theorem truV_of {K : PySem.W.Frag} {mg : Str → Option Value} {ρ : List Addr} {H : Hp} {dh : DH} {x : D} {v : V} {b : Bool} (w : Wd K mg ρ dh H) (r : Rep K ρ H x v) (e : truD dh x = some b) : TruV K v H b := by
  cases r with
  | exn0 => cases e
  | exn1 => cases e
  | non => cases e; rfl
  | bl k => cases e; rfl
  | int i => cases e; rfl
  | str x =>
    simp only [truD] at e
    split at e
    · rename_i hl
      cases e
      refine ⟨size_lim hl, ?_⟩
      cases x.length <;> rfl
    · cases e
  | @tup ds a xs t r =>
    cases e
    refine .inr (.inl ⟨xs, t.sq, ?_⟩)
    cases r <;> rfl
  | @rol ds a xs t r =>
    cases e
    refine .inl ⟨xs, t.sq, ?_⟩
    cases r <;> rfl
  | @ref n a ha =>
    simp only [truD] at e
    split at e
    · rename_i ds hk
      cases e
      obtain ⟨xs, h1, r1⟩ := cell_lst w hk ha
      refine .inl ⟨xs, SqL.of h1, ?_⟩
      cases r1 <;> rfl
    · rename_i kvs hk
      cases e
      obtain ⟨ks, h1, r1⟩ := w.cellAt hk ha
      refine .inr (.inr ⟨ks, h1, ?_⟩)
      cases r1 <;> rfl
    · cases e
def dTru (f : FE) : FT := fun σ h => (f σ h).bind fun x h1 => match truD h1 x with
  | some b => .ok b h1
  | none => .bad
theorem dt_tru {X : Cx} {W : WX} {e : Expr} {f : FE} (h : PE X e (rE X.K X.mg W f)) (he : ∀ whole, isTrue e X.env whole = (do let v ← whole; standAt e.pos; holding [v] (truthy v)) := by intro _; rfl) : PT X e (rT X.K X.mg W (dTru f)) := by
  refine PT.weak (pt_truth h he) fun τ H Q r => ?_
  refine rd.mono (fun v H1 => ?_) (rd_bind (R := Rep X.K) (g := fun x σ h1 => match truD h1 x with | some b => .ok b h1 | none => .bad) r)
  rintro ⟨x, σ, dh, ρ, w, s, rx, p⟩
  cases e : truD dh x with
  | none => simp only [e] at p; exact p.elim
  | some b =>
    simp only [e] at p
    exact ⟨b, truV_of w rx e, p.done w⟩

/-! ### arguments, displays -/
def dNil : FA := fun _ h => .ok [] h
def dCons (f : FE) (g : FA) : FA := fun σ h => (f σ h).bind fun x h1 => (g σ h1).bind fun xs h2 => .ok (x :: xs) h2
section
variable {X : Cx} {W : WX} {e : Expr} {es : List Expr} {pos : Pos}
theorem da_nil : PA X [] (rA X.K X.mg W dNil) := PA.weak pa_nil fun _ _ _ ⟨_, _, _, w, _, p⟩ => p _ _ _ (Grow.refl _ _) w .nil
theorem da_cons {f : FE} {g : FA} (ha : PE X e (rE X.K X.mg W f)) (hr : PA X es (rA X.K X.mg W g)) (hs : starEach (e :: es) X.env = (false, eval e X.env) :: starEach es X.env := by rfl) : PA X (e :: es) (rA X.K X.mg W (dCons f g)) := by
  refine PA.weak (pa_cons ha hr hs) fun τ H Q h => ?_
  obtain ⟨σ, dh, ρ, w, s, p⟩ := h
  refine ⟨σ, dh, ρ, w, s, ?_⟩
  refine Pst.mono (Pst.bind (R := Rep X.K) p) ?_
  rintro v H1 ⟨x, h1, ρ1, g1, w1, rx, p1⟩
  refine ⟨σ, h1, ρ1, w1, s.grow g1, ?_⟩
  refine Pst.mono (Pst.bind (R := RepL X.K) p1) ?_
  rintro vs H2 ⟨xs, h2, ρ2, g2, w2, rxs, p2⟩
  exact p2 _ _ _ (Grow.refl _ _) w2 (.cons (rx.grow g2) rxs)
def dTup (f : FA) : FE := fun σ h => (f σ h).bind fun xs h1 => if xs.length ≤ 16777216 then .ok (.tup xs) h1 else .bad
def dLst (f : FA) : FE := fun σ h => (f σ h).bind fun xs h1 => if xs.length ≤ 16777216 then .ok (.ref h1.length) (h1 ++ [.lst xs]) else .bad
theorem de_tup {f : FA} {x1} (h : PA X es (rA X.K X.mg W f)) : PE X (.Tuple es x1 pos) (rE X.K X.mg W (dTup f)) := by
  refine PE.weak (pe_tupX h) fun τ H Q r => ?_
  refine rd.mono (fun vs H1 => ?_) (rd_bind (R := RepL X.K) (g := fun xs σ h1 => if xs.length ≤ 16777216 then .ok (D.tup xs) h1 else .bad) r)
  rintro ⟨x, σ, dh, ρ, w, s, rx, p⟩
  split at p
  · rename_i hl
    exact ⟨size_lim (by rw [← rx.length]; exact hl), new_tup w rx p⟩
  · exact p.elim
theorem de_lst {f : FA} (h : PA X es (rA X.K X.mg W f)) : PE X (.List es pos) (rE X.K X.mg W (dLst f)) := by
  refine PE.weak (pe_lst h) fun τ H Q r => ?_
  refine rd.mono (fun vs H1 => ?_) (rd_bind (R := RepL X.K) (g := fun xs σ h1 => if xs.length ≤ 16777216 then .ok (D.ref h1.length) (h1 ++ [.lst xs]) else .bad) r)
  rintro ⟨x, σ, dh, ρ, w, s, rx, p⟩
  split at p
  · rename_i hl
    exact ⟨size_lim (by rw [← rx.length]; exact hl), new_lst w rx p⟩
  · exact p.elim
end

/-! ### subscripts, slices -/
theorem RepL.atI {K : PySem.W.Frag} {ρ : List Addr} {H : Hp} {ds : List D} {xs : List V} {i : Int} {d : D} (r : RepL K ρ H ds xs) (e : L2.atI ds i = some d) : ∃ v, L2.atI xs i = some v ∧ Rep K ρ H d v := by
  unfold L2.atI at e ⊢
  rw [r.length] at e
  cases h : ixN xs.length i with
  | none => rw [h] at e; cases e
  | some j =>
    rw [h] at e
    exact r.get e
/-! ### keys of dicts -/
def keyD : D → Option Key
  | .int i => some (.inl i)
  | .str x => some (.inr x)
  | _ => none
def getK (kvs : List (Key × D)) (k : Key) : Option D := (kvs.find? fun kv => decide (kv.1 = k)).map (·.2)
section
variable {K : PySem.W.Frag} {mg : Str → Option Value} {ρ : List Addr} {H : Hp}
theorem keyD_rep {d : D} {v : V} {k : Key} (r : Rep K ρ H d v) (e : keyD d = some k) : v = kV k := by
  cases r <;> first | (cases e; rfl) | cases e
theorem getK_rep : ∀ {kvs : List (Key × D)} {ks : List (Key × V)} {k : Key}, RepK K ρ H kvs ks → (∀ d, getK kvs k = some d → ∃ v, valV ks k = some v ∧ Rep K ρ H d v) ∧ (getK kvs k = none → valV ks k = none)
  | _, _, _, .nil => ⟨fun d e => (nomatch e), fun _ => rfl⟩
  | (a, d) :: kvs, (b, v) :: ks, k, .cons h r => by
    obtain ⟨h1, h2⟩ := h
    simp only at h1 h2
    subst h1
    obtain ⟨i1, i2⟩ := getK_rep (k := k) r
    unfold getK valV at *
    rw [List.find?_cons, List.find?_cons]
    by_cases e : a = k
    · simp only [e, decide_true]
      exact ⟨fun d' q => ⟨v, rfl, by cases q; exact h2⟩, fun q => nomatch q⟩
    · simp only [e, decide_false]
      exact ⟨i1, i2⟩
end
def oIx : D → D → DH → Res D
  | .tup ds, .int i, h => match L2.atI ds i with
    | some d => .ok d h
    | none => .bad
  | .rol ds, .int i, h => match L2.atI ds i with
    | some d => .ok d h
    | none => .bad
  | .ref n, .int i, h => match h[n]? with
    | some (.lst ds) => match L2.atI ds i with
      | some d => .ok d h
      | none => .bad
    | some (.dic kvs) => match getK kvs (.inl i) with
      | some d => .ok d h
      | none => .bad
    | _ => .bad
  | .ref n, .str i, h => match h[n]? with
    | some (.dic kvs) => match getK kvs (.inr i) with
      | some d => .ok d h
      | none => .bad
    | _ => .bad
  | .str z, .int i, h => if z.length ≤ 16777216 then (match L2.atI z.cps.toList i with
    | some c => .ok (.str ⟨#[c]⟩) h
    | none => .bad) else .bad
  | _, _, _ => .bad
theorem subD_tail {prog : Program} {w : World} {A : Around} {E : Value → Shared → Prop} {s₂ : Shared} {value slice : Expr} {T id : String} {Q : Value → Shared → Prop} {o i : Value}
    (hl : typeLookup (.type T) "__getitem__" = pure (some (.builtin id))) (hT : s₂.TypeIs o T) (h₂ : wpAny (model prog w) A (getItem o i) Q E s₂) (hs : subscripted slice false o i = operate [o, i] (getItem o i)) :
    wpAny (model prog w) A (subscriptTail value slice o i) Q E s₂ := by
  unfold subscriptTail
  refine wpAny_bind ?_
  rw [getitemInPython_of_ne hT.not_modules]
  refine wpAny_bind (wpAny_specialOf hT hl ?_)
  have fin : wpAny (model prog w) A (subscripted slice false o i) (fun r s₃ => wpAny (model prog w) A (letTemporaryGo value o r >>= fun _ => pure r) Q E s₃) E s₂ := by
    rw [hs]
    exact wpAny_operating (wpAny_mono h₂ (fun r s₃ h₃ => wpAny_bind (wpAny_letTemporaryGo (wpAny_pure h₃))) fun _ _ x => x)
  first
    | exact wpAny_pure (wpAny_bind fin)
    | exact wpAny_bind fin
def rIxK : R2 := fun x y H Q => ∃ a v, x = .ref a ∧ DGet H a y (some v) ∧ Q v H
theorem ix_dict {X : Cx} (hu : X.A.units + 1 < cLine) : IxR X rIxK := by
  intro value slice pins s σ H x y v u Q I rx ry ⟨a, d, ex, g, q⟩ hs
  subst ex
  obtain rfl : v = Value.ref a := rx
  exact subD_tail PySem.F.slot_dict_getitem.lookup (dict_typeIs I g) (d_getItem hu I g ry fun w' s3 I3 rw' => ⟨d, H, I3, rw', q⟩) hs
def rIxU (K : PySem.W.Frag) : R2 := fun x y H Q => rIx K x y H Q ∨ rIxK x y H Q
theorem os_ix {K : PySem.W.Frag} {mg : Str → Option Value} : OpS K mg (rIxU K) oIx := by
  intro ρ dh H x y v u Q W τ w rx ry p
  cases ry with
  | int i =>
    cases rx with
    | @tup ds a xs t r =>
      simp only [oIx] at p
      split at p
      · rename_i d e
        obtain ⟨v, h1, h2⟩ := r.atI e
        exact .inl (.inr (.inl ⟨_, _, _, v, rfl, rfl, t.sq, h1, same_val w h2 p⟩))
      · exact p.elim
    | @rol ds a xs t r =>
      simp only [oIx] at p
      split at p
      · rename_i d e
        obtain ⟨v, h1, h2⟩ := r.atI e
        exact .inl (.inl ⟨_, _, _, v, rfl, rfl, t.sq, h1, same_val w h2 p⟩)
      · exact p.elim
    | @ref n a ha =>
      simp only [oIx] at p
      split at p
      · rename_i ds hk
        obtain ⟨xs, hx, r⟩ := cell_lst w hk ha
        split at p
        · rename_i d e
          obtain ⟨v, h1, h2⟩ := r.atI e
          exact .inl (.inl ⟨_, _, _, v, rfl, rfl, SqL.of hx, h1, same_val w h2 p⟩)
        · exact p.elim
      · rename_i kvs hk
        obtain ⟨ks, hx, r⟩ := w.cellAt hk ha
        split at p
        · rename_i d e
          obtain ⟨v, h1, h2⟩ := (getK_rep (k := .inl i) r).1 d e
          exact .inr ⟨a, v, rfl, (by have := DGet.k (k := .inl i) hx; rw [h1] at this; exact this), same_val w h2 p⟩
        · exact p.elim
      · exact p.elim
    | str z =>
      simp only [oIx] at p
      split at p
      · rename_i hl
        split at p
        · rename_i c e
          exact .inl (.inr (.inr ⟨z, i, c, rfl, rfl, size_lim hl, e, same_val w (.str _) p⟩))
        · exact p.elim
      · exact p.elim
    | _ => exact p.elim
  | str i =>
    cases rx with
    | @ref n a ha =>
      simp only [oIx] at p
      split at p
      · rename_i kvs hk
        obtain ⟨ks, hx, r⟩ := w.cellAt hk ha
        split at p
        · rename_i d e
          obtain ⟨v, h1, h2⟩ := (getK_rep (k := .inr i) r).1 d e
          exact .inr ⟨a, v, rfl, (by have := DGet.k (k := .inr i) hx; rw [h1] at this; exact this), same_val w h2 p⟩
        · exact p.elim
      · exact p.elim
    | _ => exact p.elim
  | _ => cases rx <;> exact p.elim
theorem de_ix {X : Cx} {W : WX} {a b : Expr} {fa fb : FE} {pos : Pos} (hu : X.A.units + 1 < cLine) (ha : PE X a (rE X.K X.mg W fa)) (hb : PE X b (rE X.K X.mg W fb)) (hs : PlainIx b := by exact fun _ _ => rfl) : PE X (.Subscript a b pos) (rE X.K X.mg W (dBin oIx fa fb)) :=
  PE.weak (pe_ix (IxR.or ix_seq (ix_dict hu)) ha hb hs) fun _ _ _ h => rd_two os_ix h

def cutD (ds : List D) (lo hi : Option Int) : List D := (ds.drop (HT.sIx ds.length 0 lo)).take (HT.sIx ds.length ds.length hi - HT.sIx ds.length 0 lo)
theorem RepL.cut {K : PySem.W.Frag} {ρ : List Addr} {H : Hp} {ds : List D} {xs : List V} (r : RepL K ρ H ds xs) (lo hi : Option Int) : RepL K ρ H (cutD ds lo hi) (cutV xs lo hi) := by
  unfold cutD cutV
  rw [r.length]
  exact (r.drop _).take _
abbrev FO := DE → DH → Res (Option Int)
def dNoPart : FO := fun _ h => .ok none h
def dPart (f : FE) : FO := fun σ h => (f σ h).bind fun x h1 => match x with
  | .int i => .ok (some i) h1
  | _ => .bad
abbrev rO (K : PySem.W.Frag) (mg : Str → Option Value) (W : WX) (f : FO) : TO := rd K mg (fun _ _ a b => a = b) W f
def oSl (x : D) (lo hi : Option Int) (h : DH) : Res D := match x with
  | .tup ds => .ok (.tup (cutD ds lo hi)) h
  | .rol ds => .ok (.ref h.length) (h ++ [.lst (cutD ds lo hi)])
  | .ref n => match h[n]? with
    | some (.lst ds) => .ok (.ref h.length) (h ++ [.lst (cutD ds lo hi)])
    | _ => .bad
  | .str z => if z.length ≤ 16777216 then .ok (.str (cutS z lo hi)) h else .bad
  | _ => .bad
def dSl (f : FE) (lo hi : FO) : FE := fun σ h => (f σ h).bind fun x h1 => (lo σ h1).bind fun l h2 => (hi σ h2).bind fun u h3 => oSl x l u h3
section
variable {X : Cx} {W : WX}
theorem PO.weak {e : Option Expr} {t t' : TO} (h : PO X e t) (w : ∀ σ H Q, t' σ H Q → t σ H Q) : PO X e t' := ⟨fun pins s σ H Q I q => h.run pins s σ H Q I (w σ H Q q)⟩
theorem do_none : PO X none (rO X.K X.mg W dNoPart) := PO.weak po_none fun _ _ _ ⟨_, _, _, w, _, p⟩ => p _ _ _ (Grow.refl _ _) w rfl
theorem do_some {e : Expr} {f : FE} (h : PE X e (rE X.K X.mg W f)) : PO X (some e) (rO X.K X.mg W (dPart f)) := by
  refine PO.weak (po_some h) fun τ H Q r => ?_
  refine rd.mono (fun v H1 => ?_) (rd_bind (R := Rep X.K) (g := fun x σ h1 => match x with | .int i => .ok (some i) h1 | _ => .bad) r)
  rintro ⟨x, σ, dh, ρ, w, s, rx, p⟩
  cases rx <;> first | exact p.elim | skip
  exact ⟨_, rfl, p _ _ _ (Grow.refl _ _) w rfl⟩
def rSlAny (K : PySem.W.Frag) : V → Option Int → Option Int → Hp → VK → Prop := fun x lo hi H Q => rSlX K x lo hi H Q ∨ (rSlL K x lo hi H Q ∨ rSlS x lo hi H Q)
theorem sl_any : SlR X (rSlAny X.K) := SlR.or sl_tupX (SlR.or sl_list sl_str)
theorem de_sl {e : Expr} {f : FE} {lo hi : Option Expr} {fl fh : FO} {pos p2 : Pos} (he : PE X e (rE X.K X.mg W f)) (hl : PO X lo (rO X.K X.mg W fl)) (hh : PO X hi (rO X.K X.mg W fh)) : PE X (.Subscript e (.Slice lo hi none p2) pos) (rE X.K X.mg W (dSl f fl fh)) := by
  refine PE.weak (pe_slice sl_any he hl hh) fun τ H Q h => ?_
  obtain ⟨σ, dh, ρ, w, s, p⟩ := h
  refine ⟨σ, dh, ρ, w, s, ?_⟩
  refine Pst.mono (Pst.bind (R := Rep X.K) p) ?_
  rintro v H1 ⟨x, h1, ρ1, g1, w1, rx, p1⟩
  refine ⟨σ, h1, ρ1, w1, s.grow g1, ?_⟩
  refine Pst.mono (Pst.bind (R := fun _ _ a b => a = b) p1) ?_
  rintro l H2 ⟨l', h2, ρ2, g2, w2, rfl, p2⟩
  refine ⟨σ, h2, ρ2, w2, s.grow (g1.trans g2), ?_⟩
  refine Pst.mono (Pst.bind (R := fun _ _ a b => a = b) p2) ?_
  rintro u H3 ⟨u', h3, ρ3, g3, w3, rfl, p3⟩
  have rx3 := rx.grow (g2.trans g3)
  cases rx3 with
  | @tup ds a xs t r =>
    refine .inl ⟨a, xs, rfl, t.sq, fun e => ?_, new_tup w3 (r.cut _ _) p3⟩
    have q := r.cut l' u'
    rw [e] at q
    exact same_val w3 (.tup t q) p3
  | @rol ds a xs t r => exact .inr (.inl ⟨a, xs, rfl, t.sq, new_lst w3 (r.cut _ _) p3⟩)
  | @ref n a ha =>
    simp only [oSl] at p3
    split at p3
    · rename_i ds hk
      obtain ⟨xs, hx, r⟩ := cell_lst w3 hk ha
      exact .inr (.inl ⟨a, xs, rfl, SqL.of hx, new_lst w3 (r.cut _ _) p3⟩)
    · exact p3.elim
  | str z =>
    simp only [oSl] at p3
    split at p3
    · rename_i hl
      exact .inr (.inr ⟨z, rfl, size_lim hl, same_val w3 (.str _) p3⟩)
    · exact p3.elim
  | _ => exact p3.elim
end

/-! ### calls of built-ins by name -/
def CallS (K : PySem.W.Frag) (mg : Str → Option Value) (r : List V → Hp → VK → Prop) (f : List D → DH → Res D) : Prop :=
  ∀ (ρ : List Addr) (dh : DH) (H : Hp) (ds : List D) (vs : List V) (Q : VK) (W : WX) (τ : L2.St), Wd K mg ρ dh H → RepL K ρ H ds vs → Pst K mg (Rep K) W τ ρ H Q (f ds dh) → r vs H Q
def dCB (f : List D → DH → Res D) (g : FA) : FE := fun σ h => (g σ h).bind fun xs h1 => f xs h1
section
variable {X : Cx} {W : WX} {x : Str} {p pos : Pos} {e : Expr} {es : List Expr} {id T : String} {r : List V → Hp → VK → Prop} {f : List D → DH → Res D} {g : FA}
theorem rd_cb {K : PySem.W.Frag} {mg : Str → Option Value} {τ : L2.St} {H : Hp} {Q : VK} (hs : CallS K mg r f) (h : rE K mg W (dCB f g) τ H Q) : tCB r (rA K mg W g) τ H Q := by
  refine rd.mono (fun vs H1 => ?_) (rd_bind (R := RepL K) (g := fun xs σ h1 => f xs h1) h)
  rintro ⟨x, σ, dh, ρ, w, s, rx, p⟩
  exact hs ρ dh H1 x vs Q W τ w rx p
theorem de_callB (hc : CallR X (.builtin id) r) (hs : CallS X.K X.mg r f) (hm : X.mg x = none) (ha : PA X (e :: es) (rA X.K X.mg W g)) (hg : Gl X x := by rfl) (hv : bootBuiltins x = some (.builtin id) := by decide +kernel) (hn : x ≠ "__name__" := by decide) (hdb : (x == ("__debug__" : Str)) = false := by decide)
    (he : starEach (e :: es) X.env = (false, eval e X.env) :: starEach es X.env := by rfl) (hpl : (backTo pos (starEach es X.env)).any (·.1) = false := by rfl) : PE X (.Call (.Name x p) (e :: es) [] pos) (rE X.K X.mg W (dCB f g)) :=
  PE.weak (pe_callB hc hg hm hv ha hn hdb he hpl) fun _ _ _ h => rd_cb hs h
theorem de_callTy (hc : CallR X (.type T) r) (hs : CallS X.K X.mg r f) (hm : X.mg x = none) (ha : PA X (e :: es) (rA X.K X.mg W g)) (hg : Gl X x := by rfl) (hv : bootBuiltins x = some (.type T) := by decide +kernel) (hn : x ≠ "__name__" := by decide) (hdb : (x == ("__debug__" : Str)) = false := by decide)
    (he : starEach (e :: es) X.env = (false, eval e X.env) :: starEach es X.env := by rfl) (hpl : (backTo pos (starEach es X.env)).any (·.1) = false := by rfl) : PE X (.Call (.Name x p) (e :: es) [] pos) (rE X.K X.mg W (dCB f g)) :=
  PE.weak (pe_callTy hc hg hm hv ha hn hdb he hpl) fun _ _ _ h => rd_cb hs h
end
/-- len -/
def bLen : List D → DH → Res D
  | [.str z], h => if z.length ≤ 16777216 then .ok (.int z.length) h else .bad
  | [.tup ds], h => .ok (.int ds.length) h
  | [.rol ds], h => .ok (.int ds.length) h
  | [.ref n], h => match h[n]? with
    | some (.lst ds) => .ok (.int ds.length) h
    | _ => .bad
  | _, _ => .bad
theorem RepL.inv1 {K : PySem.W.Frag} {ρ : List Addr} {H : Hp} {d : D} {vs : List V} (r : RepL K ρ H [d] vs) : ∃ v, vs = [v] ∧ Rep K ρ H d v := by
  cases r with
  | cons h t => cases t; exact ⟨_, rfl, h⟩
theorem RepL.inv2 {K : PySem.W.Frag} {ρ : List Addr} {H : Hp} {d e : D} {vs : List V} (r : RepL K ρ H [d, e] vs) : ∃ v u, vs = [v, u] ∧ Rep K ρ H d v ∧ Rep K ρ H e u := by
  cases r with
  | cons h t =>
    obtain ⟨u, rfl, q⟩ := t.inv1
    exact ⟨_, _, rfl, h, q⟩
section
variable {K : PySem.W.Frag} {mg : Str → Option Value}
theorem cs_len : CallS K mg (fun xs H Q => ∃ x n, xs = [x] ∧ LenV K x H n ∧ Q (.int n) H) bLen := by
  intro ρ dh H ds vs Q W τ w rx p
  unfold bLen at p
  split at p
  · obtain ⟨v, rfl, r⟩ := rx.inv1
    cases r
    split at p
    · rename_i hl
      exact ⟨_, _, rfl, ⟨size_lim hl, rfl⟩, same_val w (.int _) p⟩
    · exact p.elim
  · obtain ⟨v, rfl, r⟩ := rx.inv1
    cases r with
    | tup t r => exact ⟨_, _, rfl, .inr ⟨_, t.sq, rfl⟩, by rw [← r.length]; exact same_val w (.int _) p⟩
  · obtain ⟨v, rfl, r⟩ := rx.inv1
    cases r with
    | rol t r => exact ⟨_, _, rfl, .inl ⟨_, t.sq, rfl⟩, by rw [← r.length]; exact same_val w (.int _) p⟩
  · obtain ⟨v, rfl, r⟩ := rx.inv1
    cases r with
    | ref ha =>
      split at p
      · rename_i ds hk
        obtain ⟨xs, hx, r⟩ := cell_lst w hk ha
        exact ⟨_, _, rfl, .inl ⟨_, SqL.of hx, rfl⟩, by rw [← r.length]; exact same_val w (.int _) p⟩
      · exact p.elim
  · exact p.elim
/-- int(n), int(flag), int(text) -/
def bInt : List D → DH → Res D
  | [.int i], h => .ok (.int i) h
  | [.bl k], h => .ok (.int (if k then 1 else 0)) h
  | [.str a], h => if a.length ≤ 640 then (match PySem.intText? a with
    | some n => .ok (.int n) h
    | none => .bad) else .bad
  | _, _ => .bad
def rIntX : List V → Hp → VK → Prop := fun xs H Q => ((∃ i, xs = [.int i] ∧ Q (.int i) H) ∨ ∃ k, xs = [.bl k] ∧ Q (.int (if k then 1 else 0)) H) ∨ (∃ a n, xs = [.str a] ∧ PySem.intText? a = some n ∧ a.length ≤ 640 ∧ Q (.int n) H)
theorem call_intX {X : Cx} : CallR X (.type "int") rIntX := CallR.or call_int1 call_int_str
theorem cs_int : CallS K mg rIntX bInt := by
  intro ρ dh H ds vs Q W τ w rx p
  unfold bInt at p
  split at p
  · obtain ⟨v, rfl, r⟩ := rx.inv1
    cases r
    exact .inl (.inl ⟨_, rfl, same_val w (.int _) p⟩)
  · obtain ⟨v, rfl, r⟩ := rx.inv1
    cases r
    exact .inl (.inr ⟨_, rfl, same_val w (.int _) p⟩)
  · obtain ⟨v, rfl, r⟩ := rx.inv1
    cases r
    split at p
    · rename_i hl
      split at p
      · rename_i n e
        exact .inr ⟨_, n, rfl, e, hl, same_val w (.int _) p⟩
      · exact p.elim
    · exact p.elim
  · exact p.elim
/-- str(n) -/
def bStr : List D → DH → Res D
  | [.int i], h => if i.natAbs.log2 < 1920 then .ok (.str (toString i)) h else .bad
  | _, _ => .bad
theorem cs_str : CallS K mg (fun xs H Q => ∃ i, xs = [.int i] ∧ i.natAbs.log2 < 1920 ∧ Q (.str (toString i)) H) bStr := by
  intro ρ dh H ds vs Q W τ w rx p
  unfold bStr at p
  split at p
  · obtain ⟨v, rfl, r⟩ := rx.inv1
    cases r
    split at p
    · rename_i hl
      exact ⟨_, rfl, hl, same_val w (.str _) p⟩
    · exact p.elim
  · exact p.elim
/-- list(x), tuple(x) -/
def bList : List D → DH → Res D
  | [.tup ds], h => .ok (.ref h.length) (h ++ [.lst ds])
  | [.rol ds], h => .ok (.ref h.length) (h ++ [.lst ds])
  | [.ref n], h => match h[n]? with
    | some (.lst ds) => .ok (.ref h.length) (h ++ [.lst ds])
    | _ => .bad
  | _, _ => .bad
theorem cs_list : CallS K mg (fun xs H Q => ∃ p ys, xs = [.ref p] ∧ (SqL K H p ys ∨ SqT K H p ys) ∧ ∀ l, H l = none → Q (.ref l) (upd H l (.lst ys))) bList := by
  intro ρ dh H ds vs Q W τ w rx p
  unfold bList at p
  split at p
  · obtain ⟨v, rfl, r⟩ := rx.inv1
    cases r with
    | tup t r => exact ⟨_, _, rfl, .inr t.sq, new_lst w r p⟩
  · obtain ⟨v, rfl, r⟩ := rx.inv1
    cases r with
    | rol t r => exact ⟨_, _, rfl, .inl t.sq, new_lst w r p⟩
  · obtain ⟨v, rfl, r⟩ := rx.inv1
    cases r with
    | ref ha =>
      split at p
      · rename_i ds hk
        obtain ⟨xs, hx, r⟩ := cell_lst w hk ha
        exact ⟨_, _, rfl, .inl (SqL.of hx), new_lst w r p⟩
      · exact p.elim
  · exact p.elim
def bTuple : List D → DH → Res D
  | [.tup ds], h => .ok (.tup ds) h
  | [.rol ds], h => .ok (.tup ds) h
  | [.ref n], h => match h[n]? with
    | some (.lst ds) => .ok (.tup ds) h
    | _ => .bad
  | _, _ => .bad
theorem cs_tuple : CallS K mg (fun xs H Q => ∃ p ys, xs = [.ref p] ∧ ((SqL K H p ys ∧ NewT H Q ys) ∨ (SqT K H p ys ∧ Q (.ref p) H))) bTuple := by
  intro ρ dh H ds vs Q W τ w rx p
  unfold bTuple at p
  split at p
  · obtain ⟨v, rfl, r⟩ := rx.inv1
    cases r with
    | tup t r => exact ⟨_, _, rfl, .inr ⟨t.sq, same_val w (.tup t r) p⟩⟩
  · obtain ⟨v, rfl, r⟩ := rx.inv1
    cases r with
    | rol t r => exact ⟨_, _, rfl, .inl ⟨t.sq, new_tup w r p⟩⟩
  · obtain ⟨v, rfl, r⟩ := rx.inv1
    cases r with
    | ref ha =>
      split at p
      · rename_i ds hk
        obtain ⟨xs, hx, r⟩ := cell_lst w hk ha
        exact ⟨_, _, rfl, .inl ⟨SqL.of hx, new_tup w r p⟩⟩
      · exact p.elim
  · exact p.elim
end
end DL

/-! The data layer: isinstance, methods of built-in types, statements, loops, calls of defs, the def's rule. -/
namespace DL
open PySem PySem.Spec L2
open PyProof.Rows hiding St

/-! ### isinstance(x, T), T a built-in type -/
inductive TN where
  | non | bl | int | str | tup | lst | dic
  | own (c : Str)
def TN.s : TN → String
  | .non => "NoneType" | .bl => "bool" | .int => "int" | .str => "str" | .tup => "tuple" | .lst => "list" | .dic => "dict"
  | .own _ => ""
def tyD (h : DH) : D → Option TN
  | .non => some .non
  | .bl _ => some .bl
  | .int _ => some .int
  | .str _ => some .str
  | .tup _ => some .tup
  | .rol _ => some .lst
  | .ref n => match h[n]? with
    | some (.lst _) => some .lst
    | some (.dic _) => some .dic
    | some (.ldic _) => some .dic
    | some (.obj c _) => some (.own c)
    | none => none
  | .exn0 .. => none
  | .exn1 .. => none
/-- T takes a value of type t -/
def TN.has : TN → TN → Option Bool
  | .own _, _ => none
  | _, .own _ => none
  | .bl, .bl => some true
  | .int, .int => some true
  | .int, .bl => some true
  | .str, .str => some true
  | .tup, .tup => some true
  | .lst, .lst => some true
  | .dic, .dic => some true
  | .non, .non => some true
  | _, _ => some false
def TN.known : List TN := [.bl, .int, .str, .tup, .lst, .dic]
theorem kit_has {T t : TN} {b : Bool} (hT : T.s ∈ ["bool", "int", "str", "tuple", "list", "dict"]) (h : T.has t = some b) : kitB t.s T.s = some b := by
  cases T <;> first | (exact absurd hT (by decide)) | skip
  all_goals (clear hT; cases t)
  all_goals first
    | (have e := Option.some.inj h
       subst e
       decide +kernel)
    | cases h
theorem tyX_of {K : PySem.W.Frag} {mg : Str → Option Value} {ρ : List Addr} {H : Hp} {dh : DH} {x : D} {v : V} {t : TN} (w : Wd K mg ρ dh H) (r : Rep K ρ H x v) (e : tyD dh x = some t) (ho : ∀ c, t ≠ .own c) : TyX K H v (.type t.s) := by
  cases r with
  | non => cases e; exact .base .non
  | bl b => cases e; exact .base (.bl b)
  | int i => cases e; exact .base (.int i)
  | str x => cases e; exact .base (.str x)
  | tup t r =>
    cases e
    rcases t with ⟨o, h, _, _⟩ | ⟨o, its, n, h1, h2, _⟩
    · exact .fTuple h
    · exact .kTuple h1 h2
  | rol t r =>
    cases e
    rcases t with ⟨o, h⟩ | ⟨o, its, n, h1, h2, _⟩
    · exact .base (.frz h)
    · exact .kList h1 h2
  | ref ha =>
    simp only [tyD] at e
    split at e
    · rename_i ds hk
      cases e
      obtain ⟨xs, h1, _⟩ := w.cellAt hk ha
      exact .base (.lst h1)
    · rename_i ds hk
      cases e
      obtain ⟨xs, h1, _⟩ := w.cellAt hk ha
      exact .base (.dK h1)
    · rename_i ds hk
      cases e
      obtain ⟨o, xs, h1, _⟩ := w.cellAt hk ha
      exact .fDict h1
    · cases e
      exact absurd rfl (ho _)
    · cases e
  | exn0 => cases e
  | exn1 => cases e
def dIs (T : TN) (f : FE) : FE := dUn (fun x h => match tyD h x with
  | some t => match T.has t with
    | some b => .ok (.bl b) h
    | none => .bad
  | none => .bad) f
theorem de_is {X : Cx} {W : WX} {e : Expr} {f : FE} {y : Str} {p p2 pos : Pos} (T : TN) (hT : T.s ∈ ["bool", "int", "str", "tuple", "list", "dict"] := by decide) (hm : X.mg "isinstance" = none) (hm2 : X.mg y = none) (he : PE X e (rE X.K X.mg W f)) (hg : Gl X "isinstance" := by rfl) (hg2 : Gl X y := by rfl)
    (hy : bootBuiltins y = some (.type T.s) := by decide +kernel) (hn : y ≠ "__name__" := by decide) (hdb : (y == ("__debug__" : Str)) = false := by decide)
    (hs : starEach (e :: [.Name y p2]) X.env = (false, eval e X.env) :: starEach [.Name y p2] X.env := by rfl) (hs2 : starEach [.Name y p2] X.env = (false, eval (.Name y p2) X.env) :: starEach [] X.env := by rfl) (hpl : (backTo pos (starEach [.Name y p2] X.env)).any (·.1) = false := by rfl) :
    PE X (.Call (.Name "isinstance" p) [e, .Name y p2] [] pos) (rE X.K X.mg W (dIs T f)) := by
  refine PE.weak (pe_callB call_isi hg hm (by decide +kernel) (pa_cons he (pa_cons (pe_bltn (v := .ty T.s) hg2 hm2 hy rfl hn hdb) pa_nil hs2) hs) (by decide) (by decide) hs hpl) fun τ H Q h => ?_
  refine rd_one (r := fun v H Q => rIsi X.K [v, .ty T.s] H Q) (fun ρ dh H x v Q W τ w rx p => ?_) h
  split at p
  · rename_i t e1
    split at p
    · rename_i b e2
      have ho : ∀ c, t ≠ .own c := fun c z => by
        subst z
        cases T <;> cases e2
      exact ⟨_, _, _, _, b, rfl, .ty _, tyX_of w rx e1 ho, kit_ty (kit_has hT e2), same_val w (.bl _) p⟩
    · exact p.elim
  · exact p.elim

/-! ### methods of built-in types -/
/-- the receiver is of the type -/
def rcvD (T : String) (h : DH) : D → Bool
  | .str _ => T == "str"
  | .rol _ => T == "list"
  | .ref n => match h[n]? with
    | some (.lst _) => T == "list"
    | some (.dic _) => T == "dict"
    | _ => false
  | _ => false
theorem rcv_ty {K : PySem.W.Frag} {mg : Str → Option Value} {ρ : List Addr} {H : Hp} {dh : DH} {x : D} {v : V} {T : String} (w : Wd K mg ρ dh H) (r : Rep K ρ H x v) (e : rcvD T dh x = true) : tyV K T v H := by
  cases r with
  | str x => exact beq_iff_eq.mp e
  | rol t r => exact .inl ⟨beq_iff_eq.mp e, _, t.sq⟩
  | ref ha =>
    simp only [rcvD] at e
    split at e
    · rename_i ds hk
      obtain ⟨xs, h1, _⟩ := w.cellAt hk ha
      exact .inl ⟨beq_iff_eq.mp e, _, SqL.of h1⟩
    · rename_i ds hk
      obtain ⟨xs, h1, _⟩ := w.cellAt hk ha
      exact .inr (.inr (.inl ⟨beq_iff_eq.mp e, .inl ⟨_, h1⟩⟩))
    · cases e
  | _ => cases e
def MetS (K : PySem.W.Frag) (mg : Str → Option Value) (r : V → List V → Hp → VK → Prop) (m : D → List D → DH → Res D) : Prop :=
  ∀ (ρ : List Addr) (dh : DH) (H : Hp) (x : D) (v : V) (ds : List D) (vs : List V) (Q : VK) (W : WX) (τ : L2.St), Wd K mg ρ dh H → Rep K ρ H x v → RepL K ρ H ds vs → Pst K mg (Rep K) W τ ρ H Q (m x ds dh) → r v vs H Q
def dBM (T : String) (m : D → List D → DH → Res D) (fo : FE) (g : FA) : FE := fun σ h => (fo σ h).bind fun x h1 => if rcvD T h1 x = true then (g σ h1).bind fun xs h2 => m x xs h2 else .bad
section
variable {X : Cx} {W : WX} {o e : Expr} {es : List Expr} {fo : FE} {g : FA} {name : Str} {apos cpos : Pos} {T id : String} {r : V → List V → Hp → VK → Prop} {m : D → List D → DH → Res D}
theorem de_bm (hm : MtR X id r) (ms : MetS X.K X.mg r m) (pa : PlainAttrs T) (slot : Slot T name id) (hty : typeOf (.builtin id) = pure (.type "method_descriptor")) (ho : PE X o (rE X.K X.mg W fo)) (ha : PA X (e :: es) (rA X.K X.mg W g))
    (hbase : attributeBase o name X.env (eval o X.env) = eval o X.env := by rfl)
    (hfew : ((backTo cpos (starEach (e :: es) X.env)).all (fun x => !x.1) && (backToKw cpos (keywordEach [] X.env)).all (fun x => x.1.isSome) && decide ((e :: es).length + ([] : List Keyword).length + (if ([] : List Keyword).isEmpty then 0 else 1) < 30)) = true := by rfl)
    (hline : (apos.endLine == cpos.line) = true := by rfl) (hs : starEach (e :: es) X.env = (false, eval e X.env) :: starEach es X.env := by rfl) (hplain : (backTo cpos (starEach es X.env)).any (·.1) = false := by rfl) :
    PE X (.Call (.Attribute o name apos) (e :: es) [] cpos) (rE X.K X.mg W (dBM T m fo g)) := by
  refine PE.weak (pe_bm pa slot hty hm ho ha hbase hfew hline hs hplain) fun τ H Q h => ?_
  obtain ⟨σ, dh, ρ, w, s, p⟩ := h
  refine ⟨σ, dh, ρ, w, s, ?_⟩
  refine Pst.mono (Pst.bind (R := Rep X.K) p) ?_
  rintro v H1 ⟨x, h1, ρ1, g1, w1, rx, p1⟩
  split at p1
  · rename_i hr
    refine ⟨rcv_ty w1 rx hr, σ, h1, ρ1, w1, s.grow g1, ?_⟩
    refine Pst.mono (Pst.bind (R := RepL X.K) p1) ?_
    rintro vs H2 ⟨xs, h2, ρ2, g2, w2, rxs, p2⟩
    exact ms ρ2 h2 H2 x v xs vs Q W τ w2 (rx.grow g2) rxs p2
  · exact p1.elim
theorem de_bm0 (hm : MtR X id r) (ms : MetS X.K X.mg r m) (pa : PlainAttrs T) (slot : Slot T name id) (hty : typeOf (.builtin id) = pure (.type "method_descriptor")) (ho : PE X o (rE X.K X.mg W fo))
    (hbase : attributeBase o name X.env (eval o X.env) = eval o X.env := by rfl) (hline : (apos.endLine == cpos.line) = true := by rfl) :
    PE X (.Call (.Attribute o name apos) [] [] cpos) (rE X.K X.mg W (dBM T m fo dNil)) := by
  refine PE.weak (pe_bm0 pa slot hty hm ho hbase hline) fun τ H Q h => ?_
  obtain ⟨σ, dh, ρ, w, s, p⟩ := h
  refine ⟨σ, dh, ρ, w, s, ?_⟩
  refine Pst.mono (Pst.bind (R := Rep X.K) p) ?_
  rintro v H1 ⟨x, h1, ρ1, g1, w1, rx, p1⟩
  split at p1
  · rename_i hr
    exact ⟨rcv_ty w1 rx hr, ms ρ1 h1 H1 x v [] [] Q W τ w1 rx .nil p1⟩
  · exact p1.elim
end
section
variable {K : PySem.W.Frag} {mg : Str → Option Value}
/-- xs.append(y) -/
def mAppend : D → List D → DH → Res D
  | .ref n, [y], h => match h[n]? with
    | some (.lst ds) => if ds.length < 16777216 then .ok .non (h.set n (.lst (ds ++ [y]))) else .bad
    | _ => .bad
  | _, _, _ => .bad
theorem ms_append : MetS K mg rAppend mAppend := by
  intro ρ dh H x v ds vs Q W τ w rx rs p
  unfold mAppend at p
  split at p
  · obtain ⟨u, rfl, ry⟩ := rs.inv1
    cases rx with
    | ref ha =>
      split at p
      · rename_i es hk
        split at p
        · rename_i hl
          obtain ⟨xs, hx, r⟩ := cell_lst w hk ha
          exact ⟨_, xs, u, rfl, rfl, hx, size_lt (by rw [← r.length]; exact hl), put_lst (es := es) w ha hx (r.append (.one ry)) .non p⟩
        · exact p.elim
      · exact p.elim
  · exact p.elim
/-- xs.pop() -/
def mPop : D → List D → DH → Res D
  | .ref n, [], h => match h[n]? with
    | some (.lst ds) => match ds[ds.length - 1]? with
      | some y => .ok y (h.set n (.lst ds.dropLast))
      | none => .bad
    | _ => .bad
  | .ref n, [.int i], h => match h[n]? with
    | some (.lst ds) => if -(2 ^ 62) ≤ i ∧ i < 2 ^ 62 then (match seqIndex? i ds.length with
      | some k => match ds[k]? with
        | some y => .ok y (h.set n (.lst (ds.eraseIdx k)))
        | none => .bad
      | none => .bad) else .bad
    | _ => .bad
  | _, _, _ => .bad
def rPopX : V → List V → Hp → VK → Prop := fun x xs H Q => rPop x xs H Q ∨ rPopAt x xs H Q
theorem mt_popX {X : Cx} : MtR X "list.pop" rPopX := MtR.or mt_pop mt_popAt
theorem ms_pop : MetS K mg rPopX mPop := by
  intro ρ dh H x v ds vs Q W τ w rx rs p
  unfold mPop at p
  split at p
  · cases rs
    cases rx with
    | ref ha =>
      split at p
      · rename_i es hk
        obtain ⟨xs, hx, r⟩ := cell_lst w hk ha
        split at p
        · rename_i y e
          obtain ⟨u, h1, h2⟩ := r.get e
          exact .inl ⟨_, xs, u, rfl, rfl, hx, by rw [← r.length]; exact h1, put_lst (es := es) w ha hx r.dropLast h2 p⟩
        · exact p.elim
      · exact p.elim
  · obtain ⟨u, rfl, ry⟩ := rs.inv1
    cases ry
    cases rx with
    | ref ha =>
      split at p
      · rename_i es hk
        obtain ⟨xs, hx, r⟩ := cell_lst w hk ha
        split at p
        · rename_i hb
          split at p
          · rename_i k hk2
            split at p
            · rename_i y e
              obtain ⟨u, h1, h2⟩ := r.get e
              exact .inr ⟨_, xs, _, k, u, rfl, rfl, hx, by omega, by omega, by rw [← r.length]; exact hk2, h1, put_lst (es := es) w ha hx (r.eraseIdx k) h2 p⟩
            · exact p.elim
          · exact p.elim
        · exact p.elim
      · exact p.elim
  · exact p.elim
/-- xs.reverse(), xs.clear() -/
def mReverse : D → List D → DH → Res D
  | .ref n, [], h => match h[n]? with
    | some (.lst ds) => .ok .non (h.set n (.lst ds.reverse))
    | _ => .bad
  | _, _, _ => .bad
theorem ms_reverse : MetS K mg rReverse mReverse := by
  intro ρ dh H x v ds vs Q W τ w rx rs p
  unfold mReverse at p
  split at p
  · cases rs
    cases rx with
    | ref ha =>
      split at p
      · rename_i es hk
        obtain ⟨xs, hx, r⟩ := cell_lst w hk ha
        exact ⟨_, xs, rfl, rfl, hx, put_lst (es := es) w ha hx r.reverse .non p⟩
      · exact p.elim
  · exact p.elim
def mClear : D → List D → DH → Res D
  | .ref n, [], h => match h[n]? with
    | some (.lst _) => .ok .non (h.set n (.lst []))
    | _ => .bad
  | _, _, _ => .bad
theorem ms_clear : MetS K mg rClear mClear := by
  intro ρ dh H x v ds vs Q W τ w rx rs p
  unfold mClear at p
  split at p
  · cases rs
    cases rx with
    | ref ha =>
      split at p
      · rename_i es hk
        obtain ⟨xs, hx, r⟩ := cell_lst w hk ha
        exact ⟨_, xs, rfl, rfl, hx, put_lst (es := es) w ha hx .nil .non p⟩
      · exact p.elim
  · exact p.elim
/-- sep.join(xs) -/
def strsD : List D → Option (List Str)
  | [] => some []
  | .str x :: r => (strsD r).map (x :: ·)
  | _ :: _ => none
theorem strsD_rep {ρ : List Addr} {H : Hp} : ∀ {ds : List D} {vs : List V} {xs : List Str}, RepL K ρ H ds vs → strsD ds = some xs → vs = xs.map V.str
  | _, _, _, .nil, e => by cases e; rfl
  | _, _, _, .cons h r, e => by
    cases h <;> simp only [strsD] at e <;> first | cases e | skip
    obtain ⟨ys, e1, rfl⟩ := Option.map_eq_some_iff.mp e
    rw [strsD_rep r e1]
    rfl
def itemsD (h : DH) : D → Option (List D)
  | .tup ds => some ds
  | .rol ds => some ds
  | .ref n => match h[n]? with
    | some (.lst ds) => some ds
    | _ => none
  | _ => none
theorem itemsD_rep {ρ : List Addr} {H : Hp} {dh : DH} {x : D} {v : V} {ds : List D} (w : Wd K mg ρ dh H) (r : Rep K ρ H x v) (e : itemsD dh x = some ds) : ∃ a xs, v = .ref a ∧ (SqL K H a xs ∨ SqT K H a xs) ∧ RepL K ρ H ds xs := by
  cases r with
  | tup t r => cases e; exact ⟨_, _, rfl, .inr t.sq, r⟩
  | rol t r => cases e; exact ⟨_, _, rfl, .inl t.sq, r⟩
  | ref ha =>
    simp only [itemsD] at e
    split at e
    · rename_i es hk
      cases e
      obtain ⟨xs, hx, r⟩ := cell_lst w hk ha
      exact ⟨_, _, rfl, .inl (SqL.of hx), r⟩
    · cases e
  | _ => cases e
end

/-! ### what a statement gives -/
inductive RS where
  | nx (σ : DE) (h : DH)
  | rt (d : D) (h : DH)
  | bk (σ : DE) (h : DH)
  | ct (σ : DE) (h : DH)
  | exc (e : Exv) (σ : DE) (h : DH)
  | bad
abbrev FS := DE → DH → RS
def PstS (K : PySem.W.Frag) (mg : Str → Option Value) (W : WX) (ρ : List Addr) (H : Hp) (D : Ends) : RS → Prop
  | .nx σ dh => ∀ ρ' H' τ', Grow ρ H ρ' H' → Wd K mg ρ' dh H' → RepS K ρ' H' σ τ' → D.nx τ' H'
  | .rt d dh => ∀ ρ' H' v, Grow ρ H ρ' H' → Wd K mg ρ' dh H' → Rep K ρ' H' d v → D.rt v H'
  | .bk σ dh => ∀ ρ' H' τ', Grow ρ H ρ' H' → Wd K mg ρ' dh H' → RepS K ρ' H' σ τ' → D.bk τ' H'
  | .ct σ dh => ∀ ρ' H' τ', Grow ρ H ρ' H' → Wd K mg ρ' dh H' → RepS K ρ' H' σ τ' → D.ct τ' H'
  | .exc e σ dh => ∀ ρ' H' τ' c o, Grow ρ H ρ' H' → Wd K mg ρ' dh H' → RepS K ρ' H' σ τ' → ExcRep K mg ρ' H' e c o → W c o τ' H'
  | .bad => False
def rS (K : PySem.W.Frag) (mg : Str → Option Value) (W : WX) (f : FS) : TS := fun D τ H => ∃ σ dh ρ, Wd K mg ρ dh H ∧ RepS K ρ H σ τ ∧ PstS K mg W ρ H D (f σ dh)
def dThen {α : Type} (f : DE → DH → Res α) (k : α → FS) : FS := fun σ h => match f σ h with
  | .ok x h1 => k x σ h1
  | .exc e h1 => .exc e σ h1
  | .bad => .bad
def dSkip : FS := fun σ h => .nx σ h
def dSeq (f g : FS) : FS := fun σ h => match f σ h with
  | .nx σ1 h1 => g σ1 h1
  | r => r
def dRet (f : FE) : FS := dThen f fun d _ h => .rt d h
def dDrop (f : FE) : FS := dThen f fun _ σ h => .nx σ h
def dSet (i : Nat) (f : FE) : FS := dThen f fun d σ h => .nx (σ.set i (some d)) h
def dIf (c : FT) (f g : FS) : FS := dThen c fun b σ h => if b = true then f σ h else g σ h
def dBreak : FS := fun σ h => .bk σ h
def dCont : FS := fun σ h => .ct σ h
def dNever : FS := fun _ _ => .bad
section
variable {α β : Type} {K : PySem.W.Frag} {mg : Str → Option Value} {R : List Addr → Hp → α → β → Prop} {W : WX} {τ : L2.St} {ρ ρ' : List Addr} {H H' : Hp} {E : Ends} {dh : DH} {σ : DE}
theorem PstS.grow {r : RS} (g : Grow ρ H ρ' H') (p : PstS K mg W ρ H E r) : PstS K mg W ρ' H' E r := by
  cases r with
  | nx σ dh => exact fun _ _ _ g' => p _ _ _ (g.trans g')
  | rt d dh => exact fun _ _ _ g' => p _ _ _ (g.trans g')
  | bk σ dh => exact fun _ _ _ g' => p _ _ _ (g.trans g')
  | ct σ dh => exact fun _ _ _ g' => p _ _ _ (g.trans g')
  | exc e σ dh => exact fun _ _ _ _ _ g' => p _ _ _ _ _ (g.trans g')
  | bad => exact p
theorem PstS.mono {r : RS} {E' : Ends} (p : PstS K mg W ρ H E r) (h1 : ∀ τ H', E.nx τ H' → E'.nx τ H') (h2 : ∀ v H', E.rt v H' → E'.rt v H') (h3 : ∀ τ H', E.bk τ H' → E'.bk τ H') (h4 : ∀ τ H', E.ct τ H' → E'.ct τ H') : PstS K mg W ρ H E' r := by
  cases r with
  | nx σ dh => exact fun _ _ _ a b c => h1 _ _ (p _ _ _ a b c)
  | rt d dh => exact fun _ _ _ a b c => h2 _ _ (p _ _ _ a b c)
  | bk σ dh => exact fun _ _ _ a b c => h3 _ _ (p _ _ _ a b c)
  | ct σ dh => exact fun _ _ _ a b c => h4 _ _ (p _ _ _ a b c)
  | exc e σ dh => exact p
  | bad => exact p
theorem rS_then {f : DE → DH → Res α} {k : α → FS} (r : rS K mg W (dThen f k) E τ H) :
    rd K mg R W f τ H fun b H1 => ∃ x σ dh ρ, Wd K mg ρ dh H1 ∧ RepS K ρ H1 σ τ ∧ R ρ H1 x b ∧ PstS K mg W ρ H1 E (k x σ dh) := by
  obtain ⟨σ, dh, ρ, w, s, p⟩ := r
  refine ⟨σ, dh, ρ, w, s, ?_⟩
  unfold dThen at p
  cases e : f σ dh with
  | ok x h1 =>
    simp only [e] at p
    exact fun ρ1 H1 v g1 w1 rx => ⟨x, σ, h1, ρ1, w1, s.grow g1, rx, p.grow g1⟩
  | exc x h1 =>
    simp only [e] at p
    exact fun ρ1 H1 c o g1 w1 re => p _ _ _ _ _ g1 w1 (s.grow g1) re
  | bad =>
    simp only [e] at p
    exact p
end
section
variable {X : Cx} {W : WX} {st : Stmt} {rest sa sb : List Stmt} {e c : Expr} {pos : Pos} {f g : FS} {fe : FE}
theorem dss_nil : PSs X [] (rS X.K X.mg W dSkip) := PSs.weak pss_nil fun _ _ _ ⟨_, _, _, w, s, p⟩ => p _ _ _ (Grow.refl _ _) w s
theorem dss_cons (h1 : PS X st (rS X.K X.mg W f)) (h2 : PSs X rest (rS X.K X.mg W g)) : PSs X (st :: rest) (rS X.K X.mg W (dSeq f g)) := by
  refine PSs.weak (pss_cons h1 h2) fun D τ H h => ?_
  obtain ⟨σ, dh, ρ, w, s, p⟩ := h
  refine ⟨σ, dh, ρ, w, s, ?_⟩
  unfold dSeq at p
  cases e : f σ dh with
  | nx σ1 h1 =>
    simp only [e] at p
    exact fun ρ1 H1 τ1 g1 w1 s1 => ⟨σ1, h1, ρ1, w1, s1, p.grow g1⟩
  | rt d h1 => simp only [e] at p; exact p
  | bk σ1 h1 => simp only [e] at p; exact p
  | ct σ1 h1 => simp only [e] at p; exact p
  | exc x σ1 h1 => simp only [e] at p; exact p
  | bad => simp only [e] at p; exact p
theorem dss_one (h1 : PS X st (rS X.K X.mg W f)) : PSs X [st] (rS X.K X.mg W f) := pss_one h1
theorem ds_ret (h : PE X e (rE X.K X.mg W fe)) : PS X (.Return (some e) pos) (rS X.K X.mg W (dRet fe)) := by
  refine PS.weak (ps_ret h) fun D τ H r => ?_
  refine rd.mono (fun v H1 => ?_) (rS_then (R := Rep X.K) r)
  rintro ⟨x, σ, dh, ρ, w, s, rx, p⟩
  exact p _ _ _ (Grow.refl _ _) w rx
theorem ds_expr (h : PE X e (rE X.K X.mg W fe)) (hs : swapsWith e none pos.line X.env = pure false := by rfl) : PS X (.Expr e pos) (rS X.K X.mg W (dDrop fe)) := by
  refine PS.weak (ps_expr h hs) fun D τ H r => ?_
  refine rd.mono (fun v H1 => ?_) (rS_then (R := Rep X.K) r)
  rintro ⟨x, σ, dh, ρ, w, s, rx, p⟩
  exact p _ _ _ (Grow.refl _ _) w s
theorem ds_set {x : Str} {pos' : Pos} (i : Nat) (hN : X.N.Nodup) (h : PE X e (rE X.K X.mg W fe)) (hi : X.N[i]? = some x := by rfl) (hx : Loc X.env.scope x := by first | exact Or.inl rfl | exact Or.inr rfl) (hs : swapsWith e (some (.Name x pos')) pos.line X.env = pure false := by rfl)
    (hf : X.fn x = true ∨ X.env.scope.names.lookup x = some .local := by first | exact .inl rfl | exact .inr rfl) : PS X (.Assign [.Name x pos'] e pos) (rS X.K X.mg W (dSet i fe)) := by
  refine PS.weak (ps_set hN hi hx h hs hf) fun D τ H r => ?_
  refine rd.mono (fun v H1 => ?_) (rS_then (R := Rep X.K) r)
  rintro ⟨x, σ, dh, ρ, w, s, rx, p⟩
  exact p _ _ _ (Grow.refl _ _) w (s.set rx i)
theorem ds_if {t : FT} (hc : PT X c (rT X.K X.mg W t)) (ha : PSs X sa (rS X.K X.mg W f)) (hb : PSs X sb (rS X.K X.mg W g)) : PS X (.If c sa sb pos) (rS X.K X.mg W (dIf t f g)) := by
  refine PS.weak (ps_if hc ha hb) fun D τ H r => ?_
  refine rd.mono (fun b H1 => ?_) (rS_then (R := fun _ _ a b => a = b) r)
  rintro ⟨x, σ, dh, ρ, w, s, rfl, p⟩
  cases x
  · rw [if_neg Bool.false_ne_true] at p ⊢
    exact ⟨σ, dh, ρ, w, s, p⟩
  · rw [if_pos rfl] at p ⊢
    exact ⟨σ, dh, ρ, w, s, p⟩
theorem ds_pass : PS X (.Pass pos) (rS X.K X.mg W dSkip) := PS.weak ps_pass fun _ _ _ ⟨_, _, _, w, s, p⟩ => p _ _ _ (Grow.refl _ _) w s
theorem ds_break : PS X (.Break pos) (rS X.K X.mg W dBreak) := PS.weak ps_break fun _ _ _ ⟨_, _, _, w, s, p⟩ => p _ _ _ (Grow.refl _ _) w s
theorem ds_continue : PS X (.Continue pos) (rS X.K X.mg W dCont) := PS.weak ps_continue fun _ _ _ ⟨_, _, _, w, s, p⟩ => p _ _ _ (Grow.refl _ _) w s
theorem ds_never : PS X st (rS X.K X.mg W dNever) := PS.weak ps_never fun _ _ _ ⟨_, _, _, _, _, p⟩ => p
theorem dss_never {sts : List Stmt} : PSs X sts (rS X.K X.mg W dNever) := PSs.weak pss_never fun _ _ _ ⟨_, _, _, _, _, p⟩ => p
/-- name op= e -/
def dAug (i : Nat) (op : D → D → DH → Res D) (f : FE) : FS := dThen (dBin op (dVar i) f) fun d σ h => .nx (σ.set i (some d)) h
theorem ds_aug {op : Operator} {dop : D → D → DH → Res D} {r : R2} {x : Str} {pos' : Pos} (i : Nat) (hN : X.N.Nodup) (ho : OpR X (inplaceOp op) r) (hs : OpS X.K X.mg r dop) (h : PE X e (rE X.K X.mg W fe)) (hi : X.N[i]? = some x := by rfl) (hx : Loc X.env.scope x := by first | exact Or.inl rfl | exact Or.inr rfl)
    (hf : X.fn x = true ∨ X.env.scope.names.lookup x = some .local := by first | exact .inl rfl | exact .inr rfl) : PS X (.AugAssign (.Name x pos') op e pos) (rS X.K X.mg W (dAug i dop fe)) := by
  refine PS.weak (ps_aug (ti := r) hN hi hx h ho hf) fun D τ H q => ?_
  have q2 : rE X.K X.mg W (dBin dop (dVar i) fe) τ H fun z H3 => D.nx (τ.set i (some z)) H3 := by
    refine rd.mono (fun v H1 => ?_) (rS_then (R := Rep X.K) q)
    rintro ⟨x, σ, dh, ρ, w, s, rx, p⟩
    exact p _ _ _ (Grow.refl _ _) w (s.set rx i)
  exact rd_var (rd_two hs q2)
end
end DL

/-! The data layer: targets, what is walked, for, while, list comprehensions, calls of defs, the def's rule. -/
namespace DL
open PySem PySem.Spec L2
open PyProof.Rows hiding St

/-! ### targets -/
abbrev DG := D → DE → Option DE
abbrev DGs := List D → DE → Option DE
def gN (i : Nat) : DG := fun d σ => some (σ.set i (some d))
def gNilD : DGs := fun ds σ => match ds with
  | [] => some σ
  | _ => none
def gConsD (g : DG) (gs : DGs) : DGs := fun ds σ => match ds with
  | [] => none
  | d :: r => match g d σ with
    | some σ1 => gs r σ1
    | none => none
def gT (gs : DGs) : DG := fun d σ => match d with
  | .tup ds => gs ds σ
  | _ => none
/-- a tuple, however it is tracked -/
def RepW (K : PySem.W.Frag) (ρ : List Addr) (H : Hp) (d : D) (v : V) : Prop := ∃ ds a xs, d = .tup ds ∧ v = .ref a ∧ SqT K H a xs ∧ RepL K ρ H ds xs
theorem RepW.of {K : PySem.W.Frag} {ρ : List Addr} {H : Hp} {ds : List D} {v : V} (r : Rep K ρ H (.tup ds) v) : RepW K ρ H (.tup ds) v := by
  cases r with
  | tup t r => exact ⟨_, _, _, rfl, rfl, t.sq, r⟩
/-- but at the slots L all is as it was -/
def Off (L : List Nat) (τ τ' : L2.St) : Prop := τ'.length = τ.length ∧ ∀ k, k ∉ L → τ'[k]? = τ[k]?
theorem Off.set {τ : L2.St} {i : Nat} {o : Option V} : Off [i] τ (τ.set i o) := ⟨List.length_set .., fun k hk => by rw [List.getElem?_set_ne (fun e => hk (by rw [e]; exact List.mem_singleton.mpr rfl))]⟩
theorem Off.refl {L : List Nat} {τ : L2.St} : Off L τ τ := ⟨rfl, fun _ _ => rfl⟩
theorem Off.seq {L L' : List Nat} {τ τ1 τ2 : L2.St} (a : Off L τ τ1) (b : Off L' τ1 τ2) : Off (L ++ L') τ τ2 :=
  ⟨b.1.trans a.1, fun k hk => (b.2 k fun z => hk (List.mem_append_right _ z)).trans (a.2 k fun z => hk (List.mem_append_left _ z))⟩
theorem Off.mono {L L' : List Nat} {τ τ1 : L2.St} (a : Off L τ τ1) (h : ∀ k ∈ L, k ∈ L') : Off L' τ τ1 := ⟨a.1, fun k hk => a.2 k fun z => hk (h k z)⟩
theorem wipe_in {σ : L2.St} {k : Nat} : ∀ {vs : List Nat}, k ∈ vs → k < σ.length → (wipe σ vs)[k]? = some none
  | v :: vs, h, hl => by
    show ((wipe σ vs).set v none)[k]? = some none
    by_cases e : v = k
    · subst e
      rw [List.getElem?_set_self]
      rw [wipe_length]
      exact hl
    · rw [List.getElem?_set_ne e]
      exact wipe_in ((List.mem_cons.mp h).resolve_left fun z => e z.symm) hl
theorem Off.wipe {L : List Nat} {τ τ1 : L2.St} (a : Off L τ τ1) : L2.wipe τ1 L = L2.wipe τ L := by
  refine List.ext_getElem? fun k => ?_
  by_cases hk : k ∈ L
  · by_cases hl : k < τ.length
    · rw [wipe_in hk hl, wipe_in hk (by rw [a.1]; exact hl)]
    · rw [List.getElem?_eq_none_iff.mpr (by rw [wipe_length, a.1]; omega), List.getElem?_eq_none_iff.mpr (by rw [wipe_length]; omega)]
  · rw [wipe_out hk, wipe_out hk]
    exact a.2 k hk
def rG (K : PySem.W.Frag) (R : List Addr → Hp → D → V → Prop) (L : List Nat) (g : DG) : TG := fun v τ H Q => ∃ ρ d σ σ', R ρ H d v ∧ RepS K ρ H σ τ ∧ g d σ = some σ' ∧ ∀ τ', RepS K ρ H σ' τ' → Off L τ τ' → Q τ' H
def rGs (K : PySem.W.Frag) (L : List Nat) (g : DGs) : TGs := fun vs τ H Q => ∃ ρ ds σ σ', RepL K ρ H ds vs ∧ RepS K ρ H σ τ ∧ g ds σ = some σ' ∧ ∀ τ', RepS K ρ H σ' τ' → Off L τ τ' → Q τ' H
section
variable {X : Cx} {pos : Pos}
theorem PG.weak {e : Expr} {t t' : TG} (h : PG X e t) (w : ∀ v σ H Q, t' v σ H Q → t v σ H Q) : PG X e t' := ⟨fun pins s σ H v u Q I r q => h.run pins s σ H v u Q I r (w v σ H Q q)⟩
theorem PGs.weak {es : List Expr} {t t' : TGs} (h : PGs X es t) (w : ∀ v σ H Q, t' v σ H Q → t v σ H Q) : PGs X es t' := ⟨fun pins s σ H v u Q I r q => h.run pins s σ H v u Q I r (w v σ H Q q)⟩
theorem dg_name {x : Str} (i : Nat) (hN : X.N.Nodup) (hi : X.N[i]? = some x := by rfl) (hx : Loc X.env.scope x := by first | exact Or.inl rfl | exact Or.inr rfl) (hf : X.fn x = true ∨ X.env.scope.names.lookup x = some .local := by first | exact .inl rfl | exact .inr rfl) : PG X (.Name x pos) (rG X.K (Rep X.K) [i] (gN i)) := by
  refine PG.weak (pg_name hN hi hx hf) fun v τ H Q h => ?_
  obtain ⟨ρ, d, σ, σ', r, s, e, q⟩ := h
  cases e
  exact q _ (s.set r i) Off.set
theorem dgs_nil : PGs X [] (rGs X.K [] gNilD) := by
  refine PGs.weak pgs_nil fun vs τ H Q h => ?_
  obtain ⟨ρ, d, σ, σ', r, s, e, q⟩ := h
  cases r with
  | nil => cases e; exact ⟨rfl, q _ s Off.refl⟩
  | cons => cases e
theorem dgs_cons {e : Expr} {es : List Expr} {g : DG} {gs : DGs} {L L' : List Nat} (h1 : PG X e (rG X.K (Rep X.K) L g)) (h2 : PGs X es (rGs X.K L' gs)) (hs : (assignEach (e :: es) X.env).map (·.2) = assign e X.env :: (assignEach es X.env).map (·.2) := by rfl) : PGs X (e :: es) (rGs X.K (L ++ L') (gConsD g gs)) := by
  refine PGs.weak (pgs_cons h1 h2 hs) fun vs τ H Q h => ?_
  obtain ⟨ρ, d, σ, σ', r, s, e, q⟩ := h
  cases r with
  | nil => cases e
  | @cons d ds v vs r1 r2 =>
    simp only [gConsD] at e
    split at e
    · rename_i σ1 e1
      exact ⟨v, vs, rfl, ρ, d, σ, σ1, r1, s, e1, fun τ1 s1 o1 => ⟨ρ, ds, σ1, σ', r2, s1, e, fun τ2 s2 o2 => q τ2 s2 (o1.seq o2)⟩⟩
    · cases e
theorem dg_tupW {es : List Expr} {k n : Nat} {gs : DGs} {L : List Nat} (hc : X.calm = true) (h : PGs X es (rGs X.K L gs)) (hl : ∀ ds σ σ', gs ds σ = some σ' → ds.length = n) (hn : (assignEach es X.env).length = n := by rfl) (hst : (assignEach es X.env).findIdx? (·.1) = none := by rfl) :
    PG X (.Tuple es k pos) (rG X.K (RepW X.K) L (gT gs)) := by
  refine PG.weak (pg_tup hc h hn hst) fun v τ H Q h => ?_
  obtain ⟨ρ, d, σ, σ', ⟨ds, a, xs, rfl, rfl, t, r⟩, s, e, q⟩ := h
  exact ⟨a, xs, rfl, t, by rw [← r.length]; exact hl _ _ _ e, ρ, ds, σ, σ', r, s, e, q⟩
theorem dg_tup {es : List Expr} {k n : Nat} {gs : DGs} {L : List Nat} (hc : X.calm = true) (h : PGs X es (rGs X.K L gs)) (hl : ∀ ds σ σ', gs ds σ = some σ' → ds.length = n) (hn : (assignEach es X.env).length = n := by rfl) (hst : (assignEach es X.env).findIdx? (·.1) = none := by rfl) :
    PG X (.Tuple es k pos) (rG X.K (Rep X.K) L (gT gs)) := by
  refine PG.weak (dg_tupW hc h hl hn hst) fun v τ H Q h => ?_
  obtain ⟨ρ, d, σ, σ', r, s, e, q⟩ := h
  cases d with
  | tup ds => exact ⟨ρ, _, σ, σ', RepW.of r, s, e, q⟩
  | _ => cases e
end
theorem gl_nil : ∀ ds σ σ', gNilD ds σ = some σ' → ds.length = 0 := fun ds σ σ' e => by
  cases ds with
  | nil => rfl
  | cons => cases e
theorem gl_cons {g : DG} {gs : DGs} {n : Nat} (h : ∀ ds σ σ', gs ds σ = some σ' → ds.length = n) : ∀ ds σ σ', gConsD g gs ds σ = some σ' → ds.length = n + 1 := fun ds σ σ' e => by
  cases ds with
  | nil => cases e
  | cons d r =>
    simp only [gConsD] at e
    split at e
    · exact congrArg (· + 1) (h _ _ _ e)
    · cases e
/-- a, b = e -/
def dUnp (g : DG) (f : FE) : FS := dThen f fun d σ h => match g d σ with
  | some σ' => .nx σ' h
  | none => .bad
theorem ds_unp {X : Cx} {W : WX} {tg e : Expr} {g : DG} {L : List Nat} {fe : FE} {pos : Pos} (he : PE X e (rE X.K X.mg W fe)) (hg : PG X tg (rG X.K (Rep X.K) L g)) (hs : swapsWithSole [tg] e pos.line X.env = pure false := by rfl) (hw : swappedStores [tg] e X.env = pure none := by rfl)
    (h1 : (assignEach [tg] X.env).map (·.2) = [assign tg X.env] := by rfl) : PS X (.Assign [tg] e pos) (rS X.K X.mg W (dUnp g fe)) := by
  refine PS.weak (ps_asg he hg hs hw h1) fun D τ H r => ?_
  refine rd.mono (fun v H1 => ?_) (rS_then (R := Rep X.K) r)
  rintro ⟨x, σ, dh, ρ, w, s, rx, p⟩
  split at p
  · rename_i σ' e
    exact ⟨ρ, x, σ, σ', rx, s, e, fun τ' s' _ => p _ _ _ (Grow.refl _ _) w s'⟩
  · exact p.elim

/-! ### what is walked -/
structure Src where
  ds : List D
  keep : DH → Prop
def SrcOk (K : PySem.W.Frag) (mg : Str → Option Value) (R : List Addr → Hp → D → V → Prop) (ρ0 : List Addr) (H0 : Hp) (s : Src) (J : It) : Prop :=
  (∀ i d ρ dh H, s.ds[i]? = some d → Grow ρ0 H0 ρ H → Wd K mg ρ dh H → s.keep dh → J.go i H ∧ ∀ x H', J.yld i H x H' → Grow ρ H ρ H' ∧ Wd K mg ρ dh H' ∧ R ρ H' d x) ∧
  (∀ ρ dh H, Grow ρ0 H0 ρ H → Wd K mg ρ dh H → s.keep dh → J.stop s.ds.length H)
abbrev FI := DE → DH → Res Src
abbrev rI (K : PySem.W.Frag) (mg : Str → Option Value) (W : WX) (R : List Addr → Hp → D → V → Prop) (f : FI) : TI := rd K mg (SrcOk K mg R) W f
open Classical in
noncomputable def forL (keep : DH → Prop) (g : DG) (body : FS) : List D → FS
  | [] => fun σ h => if keep h then .nx σ h else .bad
  | d :: r => fun σ h => if keep h then (match g d σ with
    | some σ1 => match body σ1 h with
      | .nx σ2 h2 => forL keep g body r σ2 h2
      | .ct σ2 h2 => forL keep g body r σ2 h2
      | .bk σ2 h2 => .nx σ2 h2
      | x => x
    | none => .bad) else .bad
noncomputable def dFor (src : FI) (g : DG) (body : FS) : FS := dThen src fun s => forL s.keep g body s.ds
section
variable {X : Cx} {W : WX} {pos : Pos}
theorem ds_for {R : List Addr → Hp → D → V → Prop} {tg iter : Expr} {body : List Stmt} {f : FI} {g : DG} {L : List Nat} {fb : FS} (hp : PassesOwn (model X.prog X.w) X.A X.env X.xe) (hc : X.calm = true) (hi : PI X tg iter (rI X.K X.mg W R f)) (hg : PG X tg (rG X.K R L g)) (hb : PSs X body (rS X.K X.mg W fb))
    (hs : ∀ x, foldedSetIterable iter X.env x = pure x := by intro _; rfl) : PS X (.For tg iter body [] pos) (rS X.K X.mg W (dFor f g fb)) := by
  refine PS.weak (ps_for hp hc hi hg hb hs) fun D τ H r => ?_
  refine rd.mono (fun J H1 => ?_) (rS_then (R := SrcOk X.K X.mg R) r)
  rintro ⟨s, σ, dh, ρ, w, sσ, ⟨go, stop⟩, p⟩
  refine ⟨fun i m τ' H' => ∃ σ' dh' ρ', Grow ρ H1 ρ' H' ∧ Wd X.K X.mg ρ' dh' H' ∧ RepS X.K ρ' H' σ' τ' ∧ i + m = s.ds.length ∧ PstS X.K X.mg W ρ' H' D (forL s.keep g fb (s.ds.drop i) σ' dh'), ⟨s.ds.length, σ, dh, ρ, Grow.refl _ _, w, sσ, Nat.zero_add _, p⟩, fun i m τ' H' hW => ?_⟩
  obtain ⟨σ', dh', ρ', g', w', s', em, p'⟩ := hW
  cases e : s.ds[i]? with
  | none =>
    have hl : s.ds.length ≤ i := List.getElem?_eq_none_iff.mp e
    have hi2 : i = s.ds.length := by omega
    subst hi2
    rw [List.drop_length] at p'
    simp only [forL] at p'
    split at p'
    · rename_i hk
      exact .inl ⟨stop _ _ _ g' w' hk, p' _ _ _ (Grow.refl _ _) w' s'⟩
    · exact p'.elim
  | some d =>
    have hl : i < s.ds.length := (List.getElem?_eq_some_iff.mp e).1
    have hd : s.ds.drop i = d :: s.ds.drop (i + 1) := by
      rw [List.drop_eq_getElem_cons hl]
      rw [(List.getElem?_eq_some_iff.mp e).2]
    rw [hd] at p'
    simp only [forL] at p'
    split at p'
    · rename_i hk
      split at p'
      · rename_i σ1 eg
        obtain ⟨g1, y1⟩ := go i d _ _ _ e g' w' hk
        refine .inr ⟨g1, fun τ2 H2 => ∃ σ' dh' ρ', Grow ρ H1 ρ' H2 ∧ Wd X.K X.mg ρ' dh' H2 ∧ RepS X.K ρ' H2 σ' τ2 ∧ (i + 1) + (m - 1) = s.ds.length ∧ PstS X.K X.mg W ρ' H2 D (forL s.keep g fb (s.ds.drop (i + 1)) σ' dh'), fun τ2 H2 h2 => ⟨m - 1, by omega, h2⟩, fun x H2 hy => ?_⟩
        obtain ⟨g2, w2, r2⟩ := y1 x H2 hy
        refine ⟨ρ', d, σ', σ1, r2, s'.grow g2, eg, fun τ3 s3 _ => ⟨σ1, dh', ρ', w2, s3, ?_⟩⟩
        have gg := g'.trans g2
        have p2 := p'.grow g2
        cases eb : fb σ1 dh' with
        | nx σ2 h2 =>
          simp only [eb] at p2
          exact fun ρ4 H4 τ4 g4 w4 s4 => ⟨σ2, h2, ρ4, gg.trans g4, w4, s4, by omega, p2.grow g4⟩
        | ct σ2 h2 =>
          simp only [eb] at p2
          exact fun ρ4 H4 τ4 g4 w4 s4 => ⟨σ2, h2, ρ4, gg.trans g4, w4, s4, by omega, p2.grow g4⟩
        | bk σ2 h2 => simp only [eb] at p2; exact p2
        | rt d2 h2 => simp only [eb] at p2; exact p2
        | exc x2 σ2 h2 => simp only [eb] at p2; exact p2
        | bad => simp only [eb] at p2; exact p2
      · exact p'.elim
    · exact p'.elim
end
/-- a list or a tuple -/
def iterS (x : D) (h1 : DH) : Res Src := match itemsD h1 x with
  | some ds => .ok ⟨ds, fun h => itemsD h x = some ds⟩ h1
  | none => .bad
def dIter (f : FE) : FI := fun σ h => (f σ h).bind iterS
section
variable {X : Cx} {W : WX} {tg : Expr} {K : PySem.W.Frag} {mg : Str → Option Value}
/-- the items of a value at its turns -/
theorem src_any {ρ : List Addr} {H : Hp} {dh : DH} {x : D} {v : V} {ds : List D} (w : Wd K mg ρ dh H) (r : Rep K ρ H x v) (e : itemsD dh x = some ds) :
    ∃ a, v = .ref a ∧ ((∃ xs, SqL K H a xs) ∧ SrcOk K mg (Rep K) ρ H ⟨ds, fun h => itemsD h x = some ds⟩ (Itl K a) ∨ (∃ xs, SqT K H a xs) ∧ SrcOk K mg (Rep K) ρ H ⟨ds, fun h => itemsD h x = some ds⟩ (Itt K a)) := by
  cases r with
  | @tup es a xs t r =>
    cases e
    refine ⟨a, rfl, .inr ⟨⟨xs, t.sq⟩, fun i d ρ1 dh1 H1 hd g1 w1 _ => ?_, fun ρ1 dh1 H1 g1 w1 _ => ⟨xs, (g1.tp t).sq, by rw [← r.length]; exact Nat.le_refl _⟩⟩⟩
    obtain ⟨v, hv, rv⟩ := (r.grow g1).get hd
    refine ⟨⟨xs, v, (g1.tp t).sq, hv⟩, fun y H2 hy => ?_⟩
    obtain ⟨rfl, hy⟩ := hy
    have q := (hy xs (g1.tp t).sq).symm.trans hv
    cases q
    exact ⟨Grow.refl _ _, w1, rv⟩
  | @rol es a xs t r =>
    cases e
    refine ⟨a, rfl, .inl ⟨⟨xs, t.sq⟩, fun i d ρ1 dh1 H1 hd g1 w1 _ => ?_, fun ρ1 dh1 H1 g1 w1 _ => ⟨xs, (g1.rl t).sq, by rw [← r.length]; exact Nat.le_refl _⟩⟩⟩
    obtain ⟨v, hv, rv⟩ := (r.grow g1).get hd
    refine ⟨⟨xs, v, (g1.rl t).sq, hv⟩, fun y H2 hy => ?_⟩
    obtain ⟨rfl, hy⟩ := hy
    have q := (hy xs (g1.rl t).sq).symm.trans hv
    cases q
    exact ⟨Grow.refl _ _, w1, rv⟩
  | @ref n a ha =>
    have cell : ∀ ρ1 dh1 H1, Grow ρ H ρ1 H1 → Wd K mg ρ1 dh1 H1 → itemsD dh1 (.ref n) = some ds → ∃ xs, SqL K H1 a xs ∧ RepL K ρ1 H1 ds xs := fun ρ1 dh1 H1 g1 w1 k1 => by
      simp only [itemsD] at k1
      split at k1
      · rename_i es hk
        cases k1
        obtain ⟨xs, hx, r⟩ := cell_lst w1 hk (g1.at_ ha)
        exact ⟨xs, SqL.of hx, r⟩
      · cases k1
    obtain ⟨xs, hx, r⟩ := cell _ _ _ (Grow.refl _ _) w e
    refine ⟨a, rfl, .inl ⟨⟨xs, hx⟩, fun i d ρ1 dh1 H1 hd g1 w1 k1 => ?_, fun ρ1 dh1 H1 g1 w1 k1 => ?_⟩⟩
    · obtain ⟨ys, hy, r1⟩ := cell _ _ _ g1 w1 k1
      obtain ⟨v, hv, rv⟩ := r1.get hd
      refine ⟨⟨ys, v, hy, hv⟩, fun y H2 hz => ?_⟩
      obtain ⟨rfl, hz⟩ := hz
      have q := (hz ys hy).symm.trans hv
      cases q
      exact ⟨Grow.refl _ _, w1, rv⟩
    · obtain ⟨ys, hy, r1⟩ := cell _ _ _ g1 w1 k1
      exact ⟨ys, hy, by rw [← r1.length]; exact Nat.le_refl _⟩
  | _ => cases e
theorem di_any {l : Expr} {f : FE} (hl : PE X l (rE X.K X.mg W f)) : PI X tg l (rI X.K X.mg W (Rep X.K) (dIter f)) := by
  refine ⟨fun pins s τ H R I h => ?_⟩
  have h2 := rd_bind (R := Rep X.K) (g := fun x _ h1 => iterS x h1) h
  refine thn (hl.run pins s τ H _ I h2) fun v s1 ⟨u, H1, I1, r1, x, σ, dh, ρ, w, sσ, rx, p⟩ => ?_
  unfold iterS at p
  split at p
  · rename_i ds e
    obtain ⟨a, rfl, hq | hq⟩ := src_any w rx e
    · obtain ⟨⟨xs, hq⟩, ok⟩ := hq
      cases r1
      obtain ⟨its, rv, pl, hz⟩ := I1.list hq
      refine wpAny_pyIter_list pl.isList ⟨s1.heap.objs.size, [s1.heap.objs.size], _, _, H1, rfl, I1.kept (t' := s1.toks) fun b o e => Heap.get?_push_of_some _ e, turn_list a _, ⟨_, Heap.get?_push_size _ rfl, rfl, rfl⟩, fun b hb => ?_, p _ _ _ (Grow.refl _ _) w ok⟩
      cases List.mem_singleton.mp hb
      exact I1.fpOk (Nat.le_refl _) (I1.hok.fresh (Nat.le_refl _))
    · obtain ⟨⟨xs, hq⟩, ok⟩ := hq
      cases r1
      obtain ⟨its, rv, pl, hz⟩ := I1.tuple hq
      refine wpAny_pyIter_tuple (show s1.heap.IsTuple a its.toArray from pl) ⟨s1.heap.objs.size, [s1.heap.objs.size], _, _, H1, rfl, I1.kept (t' := s1.toks) fun b o e => Heap.get?_push_of_some _ e, turn_tuple a _, ⟨_, Heap.get?_push_size _ rfl, rfl, rfl⟩, fun b hb => ?_, p _ _ _ (Grow.refl _ _) w ok⟩
      cases List.mem_singleton.mp hb
      exact I1.fpOk (Nat.le_refl _) (I1.hok.fresh (Nat.le_refl _))
  · exact p.elim
/-- range -/
def rngD (lo : Int) (n : Nat) : List D := (List.range n).map fun i => D.int (lo + (i : Nat))
theorem rngD_len (lo : Int) (n : Nat) : (rngD lo n).length = n := by unfold rngD; rw [List.length_map, List.length_range]
theorem rngD_get {lo : Int} {n i : Nat} {d : D} (h : (rngD lo n)[i]? = some d) : i < n ∧ d = .int (lo + (i : Nat)) := by
  unfold rngD at h
  rw [List.getElem?_map] at h
  obtain ⟨j, hj, rfl⟩ := Option.map_eq_some_iff.mp h
  obtain ⟨h1, h2⟩ := List.getElem?_eq_some_iff.mp hj
  rw [List.length_range] at h1
  rw [List.getElem_range] at h2
  subst h2
  exact ⟨h1, rfl⟩
theorem src_rng {ρ : List Addr} {H : Hp} {lo : Int} {n : Nat} : SrcOk K mg (Rep K) ρ H ⟨rngD lo n, fun _ => True⟩ (Itr lo n) := by
  refine ⟨fun i d ρ1 dh1 H1 hd g1 w1 _ => ?_, fun ρ1 dh1 H1 g1 w1 _ => ?_⟩
  · obtain ⟨hi, rfl⟩ := rngD_get hd
    refine ⟨hi, fun x H2 hy => ?_⟩
    obtain ⟨rfl, rfl⟩ := hy
    exact ⟨Grow.refl _ _, w1, .int _⟩
  · show n ≤ (rngD lo n).length
    rw [rngD_len]
    exact Nat.le_refl _
def rngS (xs : List D) (h1 : DH) : Res Src := match xs with
  | [.int j] => if -(2 ^ 62) ≤ j ∧ j < 2 ^ 62 then .ok ⟨rngD 0 j.toNat, fun _ => True⟩ h1 else .bad
  | [.int i, .int j] => if (-(2 ^ 62) ≤ i ∧ i < 2 ^ 62) ∧ (-(2 ^ 62) ≤ j ∧ j < 2 ^ 62) then .ok ⟨rngD i (j - i).toNat, fun _ => True⟩ h1 else .bad
  | _ => .bad
def dRng (f : FA) : FI := fun σ h => (f σ h).bind rngS
theorem PI.weak {e : Expr} {t t' : TI} (h : PI X tg e t) (w : ∀ σ H Q, t' σ H Q → t σ H Q) : PI X tg e t' := ⟨fun pins s σ H Q I q => h.run pins s σ H Q I (w σ H Q q)⟩
theorem rd_rng1 {a : FE} {τ : L2.St} {H : Hp} {R : It → Hp → Prop} (h : rI K mg W (Rep K) (dRng (dCons a dNil)) τ H R) : iRng1 (rA K mg W (dCons a dNil)) τ H R := by
  have h2 := rd_bind (R := RepL K) (g := fun xs _ h1 => rngS xs h1) h
  obtain ⟨σ, dh, ρ, w, s, p⟩ := h2
  refine ⟨σ, dh, ρ, w, s, ?_⟩
  unfold dCons at p ⊢
  cases e : a σ dh with
  | exc x h1 => simp only [e, Res.bind] at p ⊢; exact p
  | bad => simp only [e, Res.bind] at p; exact p.elim
  | ok x h1 =>
    simp only [e, Res.bind, dNil] at p ⊢
    intro ρ1 H1 vs g1 w1 rv
    obtain ⟨xs, σ2, dh2, ρ2, w2, s2, rv2, p2⟩ := p ρ1 H1 vs g1 w1 rv
    obtain ⟨v, rfl, rv⟩ := rv.inv1
    cases rv2 with
    | cons r1 r2 =>
      cases r2
      cases r1 <;> first | exact p2.elim | skip
      rename_i j
      simp only [rngS] at p2
      split at p2
      · rename_i hb
        exact ⟨_, rfl, hb.1, hb.2, p2 _ _ _ (Grow.refl _ _) w2 src_rng⟩
      · exact p2.elim
theorem di_rng1 {a : Expr} {f : FE} {p pos : Pos} (hm : X.mg "range" = none) (ha : PA X [a] (rA X.K X.mg W (dCons f dNil))) (hg : Gl X "range" := by rfl) (hs : starEach [a] X.env = [(false, eval a X.env)] := by rfl) : PI X tg (.Call (.Name "range" p) [a] [] pos) (rI X.K X.mg W (Rep X.K) (dRng (dCons f dNil))) :=
  PI.weak (pi_range1 hg hm ha hs) fun _ _ _ h => rd_rng1 h
theorem rd_rng2 {g : FA} {τ : L2.St} {H : Hp} {R : It → Hp → Prop} (hl : ∀ σ h xs h1, g σ h = .ok xs h1 → xs.length = 2) (h : rI K mg W (Rep K) (dRng g) τ H R) : iRng2 (rA K mg W g) τ H R := by
  have h2 := rd_bind (R := RepL K) (g := fun xs _ h1 => rngS xs h1) h
  obtain ⟨σ, dh, ρ, w, s, p⟩ := h2
  refine ⟨σ, dh, ρ, w, s, ?_⟩
  cases e : g σ dh with
  | exc x h1 => simp only [e] at p; exact p
  | bad => simp only [e] at p; exact p.elim
  | ok ys h1 =>
    have hy := hl _ _ _ _ e
    simp only [e] at p
    intro ρ1 H1 vs g1 w1 rv
    obtain ⟨xs, σ2, dh2, ρ2, w2, s2, rv2, p2⟩ := p ρ1 H1 vs g1 w1 rv
    have hx : xs.length = 2 := by rw [rv2.length, ← rv.length]; exact hy
    match xs, hx, rv2, p2 with
    | [d, e], _, rv2, p2 =>
      obtain ⟨v, u, rfl, ra, rb⟩ := rv2.inv2
      cases ra <;> first | exact p2.elim | skip
      cases rb <;> first | exact p2.elim | skip
      rename_i i j
      simp only [rngS] at p2
      split at p2
      · rename_i hb
        exact ⟨_, _, rfl, ⟨hb.1.1, hb.1.2, hb.2.1, hb.2.2⟩, p2 _ _ _ (Grow.refl _ _) w2 src_rng⟩
      · exact p2.elim
theorem len2 {a b : FE} : ∀ σ h xs h1, dCons a (dCons b dNil) σ h = .ok xs h1 → xs.length = 2 := fun σ h xs h1 e => by
  unfold dCons dNil at e
  cases e1 : a σ h with
  | ok x h2 =>
    simp only [e1, Res.bind] at e
    cases e2 : b σ h2 with
    | ok y h3 =>
      simp only [e2, Res.bind] at e
      cases e
      rfl
    | exc z h3 => simp only [e2, Res.bind] at e; cases e
    | bad => simp only [e2, Res.bind] at e; cases e
  | exc z h3 => simp only [e1, Res.bind] at e; cases e
  | bad => simp only [e1, Res.bind] at e; cases e
theorem di_rng2 {a b : Expr} {f f' : FE} {p pos : Pos} (hm : X.mg "range" = none) (ha : PA X [a, b] (rA X.K X.mg W (dCons f (dCons f' dNil)))) (hg : Gl X "range" := by rfl) (hs : starEach [a, b] X.env = [(false, eval a X.env), (false, eval b X.env)] := by rfl) (hs2 : starEach [b] X.env = [(false, eval b X.env)] := by rfl) :
    PI X tg (.Call (.Name "range" p) [a, b] [] pos) (rI X.K X.mg W (Rep X.K) (dRng (dCons f (dCons f' dNil)))) :=
  PI.weak (pi_range2 hg hm ha hs hs2) fun _ _ _ h => rd_rng2 len2 h
/-- a text, sign by sign -/
def charS (x : D) (h1 : DH) : Res Src := match x with
  | .str z => .ok ⟨z.cps.toList.map fun c => D.str ⟨#[c]⟩, fun _ => True⟩ h1
  | _ => .bad
def dChars (f : FE) : FI := fun σ h => (f σ h).bind charS
theorem src_str {ρ : List Addr} {H : Hp} {z : Str} : SrcOk K mg (Rep K) ρ H ⟨z.cps.toList.map fun c => D.str ⟨#[c]⟩, fun _ => True⟩ (Its z) := by
  refine ⟨fun i d ρ1 dh1 H1 hd g1 w1 _ => ?_, fun ρ1 dh1 H1 g1 w1 _ => ?_⟩
  · have hd2 : (z.cps.toList.map fun c => D.str ⟨#[c]⟩)[i]? = some d := hd
    rw [List.getElem?_map] at hd2
    obtain ⟨c, hc, rfl⟩ := Option.map_eq_some_iff.mp hd2
    have hc2 : z.cps[i]? = some c := by rw [← Array.getElem?_toList]; exact hc
    refine ⟨(Array.getElem?_eq_some_iff.mp hc2).1, fun x H2 hy => ?_⟩
    obtain ⟨rfl, c', h1, rfl⟩ := hy
    rw [hc2] at h1
    cases h1
    exact ⟨Grow.refl _ _, w1, .str _⟩
  · show z.cps.size ≤ (z.cps.toList.map fun c => D.str ⟨#[c]⟩).length
    rw [List.length_map, Array.length_toList]
    exact Nat.le_refl _
theorem di_chars {e : Expr} {f : FE} (h : PE X e (rE X.K X.mg W f)) : PI X tg e (rI X.K X.mg W (Rep X.K) (dChars f)) := by
  refine PI.weak (pi_str h) fun τ H R r => ?_
  refine rd.mono (fun v H1 => ?_) (rd_bind (R := Rep X.K) (g := fun x _ h1 => charS x h1) r)
  rintro ⟨x, σ, dh, ρ, w, s, rx, p⟩
  cases rx <;> first | exact p.elim | skip
  exact ⟨_, rfl, p _ _ _ (Grow.refl _ _) w src_str⟩
/-- enumerate(list), a tuple target -/
def pairs (ds : List D) : List D := ds.zipIdx.map fun p => D.tup [.int (p.2 : Nat), p.1]
theorem pairs_get {ds : List D} {i : Nat} {d : D} (h : (pairs ds)[i]? = some d) : ∃ x, ds[i]? = some x ∧ d = .tup [.int (i : Nat), x] := by
  unfold pairs at h
  rw [List.getElem?_map, List.getElem?_zipIdx] at h
  cases e : ds[i]? with
  | none => rw [e] at h; cases h
  | some x =>
    rw [e] at h
    cases h
    exact ⟨x, rfl, by rw [Nat.zero_add]⟩
theorem pairs_len (ds : List D) : (pairs ds).length = ds.length := by unfold pairs; rw [List.length_map, List.length_zipIdx]
def lstD (h : DH) : D → Option (List D)
  | .rol ds => some ds
  | .ref n => match h[n]? with
    | some (.lst ds) => some ds
    | _ => none
  | _ => none
def enumS (x : D) (h1 : DH) : Res Src := match lstD h1 x with
  | some ds => .ok ⟨pairs ds, fun h => lstD h x = some ds⟩ h1
  | none => .bad
def dEnum (f : FE) : FI := fun σ h => (f σ h).bind enumS
theorem lstD_rep {ρ : List Addr} {H : Hp} {dh : DH} {x : D} {a : Addr} {ds : List D} (w : Wd K mg ρ dh H) (r : Rep K ρ H x (.ref a)) (e : lstD dh x = some ds) : ∃ xs, SqL K H a xs ∧ RepL K ρ H ds xs := by
  cases r with
  | rol t r => cases e; exact ⟨_, t.sq, r⟩
  | ref ha =>
    simp only [lstD] at e
    split at e
    · rename_i es hk
      cases e
      obtain ⟨xs, hx, r⟩ := cell_lst w hk ha
      exact ⟨xs, SqL.of hx, r⟩
    · cases e
  | _ => cases e
theorem src_enum {ρ : List Addr} {H : Hp} {x : D} {a : Addr} {ds : List D} (r : Rep K ρ H x (.ref a)) : SrcOk K mg (RepW K) ρ H ⟨pairs ds, fun h => lstD h x = some ds⟩ (Ite K a) := by
  refine ⟨fun i d ρ1 dh1 H1 hd g1 w1 k1 => ?_, fun ρ1 dh1 H1 g1 w1 k1 => ?_⟩
  · obtain ⟨y, hy, rfl⟩ := pairs_get hd
    obtain ⟨xs, hq, rl⟩ := lstD_rep w1 (r.grow g1) k1
    obtain ⟨v, hv, rv⟩ := rl.get hy
    refine ⟨⟨xs, v, hq, hv⟩, fun z H2 hz => ?_⟩
    obtain ⟨T, u, rfl, hT, rfl, hu⟩ := hz
    have q := (hu xs hq).symm.trans hv
    cases q
    exact ⟨grow_upd hT, w1.side hT, _, T, _, rfl, rfl, .inl (.inl upd_same), .cons (.int _) (.one (rv.grow (grow_upd hT)))⟩
  · obtain ⟨xs, hq, rl⟩ := lstD_rep w1 (r.grow g1) k1
    exact ⟨xs, hq, by rw [← rl.length, pairs_len]; exact Nat.le_refl _⟩
theorem di_enum {e : Expr} {f : FE} {p pos tpos : Pos} {elts : List Expr} {kk : Nat} (hm : X.mg "enumerate" = none) (he : PE X e (rE X.K X.mg W f)) (hg : Gl X "enumerate" := by rfl) (hs : starEach [e] X.env = [(false, eval e X.env)] := by rfl) :
    PI X (.Tuple elts kk tpos) (.Call (.Name "enumerate" p) [e] [] pos) (rI X.K X.mg W (RepW X.K) (dEnum f)) := by
  refine PI.weak (pi_enum hg hm (pa_cons he pa_nil (by rw [hs]; rfl)) hs) fun τ H R r => ?_
  refine rd.mono (fun v H1 => ?_) (rd_bind (R := Rep X.K) (g := fun x _ h1 => enumS x h1) r)
  rintro ⟨x, σ, dh, ρ, w, s, rx, p⟩
  unfold enumS at p
  split at p
  · rename_i ds e
    have hv : ∃ a, v = .ref a := by
      cases rx <;> first | exact ⟨_, rfl⟩ | cases e
    obtain ⟨a, rfl⟩ := hv
    obtain ⟨xs, hq, rl⟩ := lstD_rep w rx e
    exact ⟨a, xs, rfl, hq, p _ _ _ (Grow.refl _ _) w (src_enum rx)⟩
  · exact p.elim
end
end DL

/-! The data layer: list comprehensions, while, calls of defs, the def's rule. -/
namespace DL
open PySem PySem.Spec L2
open PyProof.Rows hiding St

/-! ### [e for g in src if t] -/
/-- no exception leaves a comprehension's block -/
abbrev W0 : WX := fun _ _ _ _ => False
def nox {α : Type} : Res α → Res α
  | .ok a h => .ok a h
  | _ => .bad
def wipeD (σ : DE) : List Nat → DE
  | [] => σ
  | v :: vs => (wipeD σ vs).set v none
theorem RepS.wipe {K : PySem.W.Frag} {ρ : List Addr} {H : Hp} {σ : DE} {τ : L2.St} (s : RepS K ρ H σ τ) : ∀ vs : List Nat, RepS K ρ H (wipeD σ vs) (L2.wipe τ vs)
  | [] => s
  | v :: vs => RepS.unset v (RepS.wipe s vs)
def dYes : FT := fun _ h => .ok true h
open Classical in
noncomputable def lcL (keep : DH → Prop) (g : DG) (t : FT) (e : FE) (σ : DE) (n : Nat) : List D → DH → Res D
  | [], h => if keep h then .ok (.ref n) h else .bad
  | d :: r, h => if keep h then (match g d σ with
    | some σ1 => (nox (t σ1 h)).bind fun b h1 => if b = true then (nox (e σ1 h1)).bind fun y h2 => (match h2[n]? with
        | some (.lst acc) => if acc.length < 16777216 then lcL keep g t e σ n r (h2.set n (.lst (acc ++ [y]))) else .bad
        | _ => .bad) else lcL keep g t e σ n r h1
    | none => .bad) else .bad
noncomputable def dLc (src : FI) (g : DG) (t : FT) (e : FE) (vs : List Nat) : FE := fun σ h => (src σ h).bind fun s h1 => lcL s.keep g t e (wipeD σ vs) h1.length s.ds (h1 ++ [.lst []])
section
variable {α β : Type} {K : PySem.W.Frag} {mg : Str → Option Value} {R : List Addr → Hp → α → β → Prop} {W : WX} {τ : L2.St} {ρ : List Addr} {H : Hp}
/-- a part without exceptions, under any wish -/
theorem Pst.nox {r : Res α} {Q : β → Hp → Prop} {W' : WX} {τ' : L2.St} (p : Pst K mg R W τ ρ H Q (nox r)) : Pst K mg R W' τ' ρ H Q r := by
  cases r with
  | ok a dh => exact p
  | exc e dh => exact p.elim
  | bad => exact p
theorem rd_lc {src : FI} {g : DG} {L : List Nat} {Rt : List Addr → Hp → D → V → Prop} {t : FT} {e : FE} {vs : List Nat} {Q : VK} (hL : ∀ k ∈ L, k ∈ vs) (r : rE K mg W (dLc src g t e vs) τ H Q) :
    tLc (rI K mg W Rt src) (rG K Rt L g) (rT K mg W0 t) (rE K mg W0 e) vs τ H Q := by
  refine rd.mono (fun J H1 => ?_) (rd_bind (R := SrcOk K mg Rt) (g := fun s σ h1 => lcL s.keep g t e (wipeD σ vs) h1.length s.ds (h1 ++ [.lst []])) r)
  rintro ⟨s, σ, dh, ρ1, w, sσ, ⟨go, stop⟩, p⟩ D hD
  have gD : Grow ρ1 H1 (ρ1 ++ [D]) (upd H1 D (.lst [])) := grow_cell hD
  refine ⟨fun i m H' => ∃ dh' ρ', Grow (ρ1 ++ [D]) (upd H1 D (.lst [])) ρ' H' ∧ Wd K mg ρ' dh' H' ∧ i + m = s.ds.length ∧ Pst K mg (Rep K) W τ ρ' H' Q (lcL s.keep g t e (wipeD σ vs) dh.length (s.ds.drop i) dh'),
    ⟨s.ds.length, dh ++ [Cell.lst []], ρ1 ++ [D], Grow.refl _ _, w.new (c := .lst []) hD ⟨[], upd_same, .nil⟩, Nat.zero_add _, p.grow gD⟩, fun i m H' hW => ?_⟩
  obtain ⟨dh', ρ', g', w', em, p'⟩ := hW
  have atD : ρ'[dh.length]? = some D := g'.at_ (new_at w D)
  have sw : RepS K ρ' H' (wipeD σ vs) (L2.wipe τ vs) := (sσ.wipe vs).grow (gD.trans g')
  cases ed : s.ds[i]? with
  | none =>
    have hl : s.ds.length ≤ i := List.getElem?_eq_none_iff.mp ed
    have hi2 : i = s.ds.length := by omega
    subst hi2
    rw [List.drop_length] at p'
    simp only [lcL] at p'
    split at p'
    · rename_i hk
      exact .inl ⟨stop _ _ _ (gD.trans g') w' hk, p' _ _ _ (Grow.refl _ _) w' (.ref atD)⟩
    · exact p'.elim
  | some d =>
    have hl : i < s.ds.length := (List.getElem?_eq_some_iff.mp ed).1
    have hd : s.ds.drop i = d :: s.ds.drop (i + 1) := by
      rw [List.drop_eq_getElem_cons hl, (List.getElem?_eq_some_iff.mp ed).2]
    rw [hd] at p'
    simp only [lcL] at p'
    split at p'
    · rename_i hk
      split at p'
      · rename_i σ1 eg
        obtain ⟨g1, y1⟩ := go i d _ _ _ ed (gD.trans g') w' hk
        refine .inr ⟨g1, fun H2 => ∃ dh' ρ', Grow (ρ1 ++ [D]) (upd H1 D (.lst [])) ρ' H2 ∧ Wd K mg ρ' dh' H2 ∧ (i + 1) + (m - 1) = s.ds.length ∧ Pst K mg (Rep K) W τ ρ' H2 Q (lcL s.keep g t e (wipeD σ vs) dh.length (s.ds.drop (i + 1)) dh'), fun H2 h2 => ⟨m - 1, by omega, h2⟩, fun x H2 hy => ?_⟩
        obtain ⟨g2, w2, r2⟩ := y1 x H2 hy
        refine ⟨ρ', d, _, σ1, r2, sw.grow g2, eg, fun τ2 s2 o2 => ⟨?_, σ1, dh', ρ', w2, s2, ?_⟩⟩
        · have q := (o2.mono hL).wipe
          rw [q]
          have z : ∀ vs : List Nat, Off vs τ (L2.wipe τ vs) := fun vs => ⟨wipe_length _ _, fun k hk => wipe_out hk⟩
          exact (z vs).wipe
        · refine Pst.mono (Pst.nox (Pst.bind (R := fun _ _ a b => a = b) (p'.grow g2))) ?_
          rintro b H3 ⟨b', h3, ρ3, g3, w3, rfl, p3⟩
          cases b' with
          | false =>
            rw [if_neg Bool.false_ne_true] at p3 ⊢
            exact ⟨h3, ρ3, g'.trans (g2.trans g3), w3, by omega, p3⟩
          | true =>
            rw [if_pos rfl] at p3 ⊢
            refine ⟨σ1, h3, ρ3, w3, s2.grow g3, ?_⟩
            refine Pst.mono (Pst.nox (Pst.bind (R := Rep K) p3)) ?_
            rintro y H4 ⟨y', h4, ρ4, g4, w4, ry, p4⟩
            have gg := g2.trans (g3.trans g4)
            split at p4
            · rename_i acc hn
              split at p4
              · rename_i hz
                have at4 : ρ4[dh.length]? = some D := gg.at_ atD
                obtain ⟨xs, hx, rl⟩ := cell_lst w4 hn at4
                have g5 : Grow ρ4 H4 ρ4 (upd H4 D (.lst (xs ++ [y]))) := grow_put hx trivial
                exact ⟨xs, hx, size_lt (by rw [← rl.length]; exact hz), _, ρ4, g'.trans (gg.trans g5), w4.put (c := .lst (acc ++ [y'])) at4 hx trivial ⟨xs ++ [y], upd_same, (rl.append (.one ry)).grow g5⟩, by omega, p4.grow g5⟩
              · exact p4.elim
            · exact p4.elim
      · exact p'.elim
    · exact p'.elim
end
section
variable {X : Cx} {W : WX}
theorem PTs.weak {ifs : List Expr} {t t' : TT} (h : PTs X ifs t) (w : ∀ σ H Q, t' σ H Q → t σ H Q) : PTs X ifs t' := ⟨fun pins s σ H Q I q => h.run pins s σ H Q I (w σ H Q q)⟩
theorem dts_nil : PTs X [] (rT X.K X.mg W dYes) := PTs.weak pts_nil fun _ _ _ ⟨_, _, _, w, _, p⟩ => p _ _ _ (Grow.refl _ _) w rfl
theorem dts_one {c : Expr} {t : FT} (h : PT X c (rT X.K X.mg W t)) : PTs X [c] (rT X.K X.mg W t) := pts_one h
variable {Rt : List Addr → Hp → D → V → Prop} {elt tg iter : Expr} {ifs : List Expr} {scope : Scope} {own : List (Str × Nat)} {pos : Pos} {src : FI} {g : DG} {L vs : List Nat} {t : FT} {e : FE}
theorem de_lc (hc : X.calm = true) (hN : X.N.Nodup) (hi : PI X tg iter (rI X.K X.mg W Rt src)) (ok : BlkOk X.N X.env.scope scope own)
    (hg : ∀ (s : Shared) (H : Hp) (C : Addr) (cl : List (Str × Addr)) (fp : List Addr), PG (X.blk s H scope (compEnvC scope cl C X.env) fp) tg (rG X.K Rt L g))
    (ht : ∀ (s : Shared) (H : Hp) (C : Addr) (cl : List (Str × Addr)) (fp : List Addr), PTs (X.blk s H scope (compEnvC scope cl C X.env) fp) ifs (rT X.K X.mg W0 t))
    (he : ∀ (s : Shared) (H : Hp) (C : Addr) (cl : List (Str × Addr)) (fp : List Addr), PE (X.blk s H scope (compEnvC scope cl C X.env) fp) elt (rE X.K X.mg W0 e))
    (hv : own.map (·.2) = vs := by rfl) (hL : ∀ k ∈ L, k ∈ vs := by decide) (hs : ∀ x, foldedSetIterable iter X.env x = pure x := by intro _; rfl) :
    PE X (.ListComp elt [⟨tg, iter, ifs, 0⟩] scope pos) (rE X.K X.mg W (dLc src g t e vs)) := by
  subst hv
  exact PE.weak (pe_lc hc hN hi ok hg ht he hs) fun _ _ _ r => rd_lc hL r
theorem ds_setLc {y : Str} {py spos : Pos} (i : Nat) (hc : X.calm = true) (hN : X.N.Nodup) (hsw : swapsWith (.ListComp elt [⟨tg, iter, ifs, 0⟩] scope pos) (some (.Name y py)) spos.line X.env = pure true) (hi : PI X tg iter (rI X.K X.mg W Rt src)) (ok : BlkOk X.N X.env.scope scope own)
    (hg : ∀ (s : Shared) (H : Hp) (C : Addr) (cl : List (Str × Addr)) (fp : List Addr), PG (X.blk s H scope (compEnvC scope cl C X.env) fp) tg (rG X.K Rt L g))
    (ht : ∀ (s : Shared) (H : Hp) (C : Addr) (cl : List (Str × Addr)) (fp : List Addr), PTs (X.blk s H scope (compEnvC scope cl C X.env) fp) ifs (rT X.K X.mg W0 t))
    (he : ∀ (s : Shared) (H : Hp) (C : Addr) (cl : List (Str × Addr)) (fp : List Addr), PE (X.blk s H scope (compEnvC scope cl C X.env) fp) elt (rE X.K X.mg W0 e))
    (hv : own.map (·.2) = vs := by rfl) (hL : ∀ k ∈ L, k ∈ vs := by decide) (hy : X.N[i]? = some y := by rfl) (hyl : X.env.scope.names.lookup y = some .local := by rfl) (hs : ∀ x, foldedSetIterable iter X.env x = pure x := by intro _; rfl) :
    PS X (.Assign [.Name y py] (.ListComp elt [⟨tg, iter, ifs, 0⟩] scope pos) spos) (rS X.K X.mg W (dSet i (dLc src g t e vs))) := by
  subst hv
  refine PS.weak (ps_setLc hc hN hy hyl hsw hi ok hg ht he hs) fun D τ H q => rd_lc hL ?_
  refine rd.mono (fun v H1 => ?_) (rS_then (R := Rep X.K) q)
  rintro ⟨x, σ, dh, ρ, w, s, rx, p⟩
  exact p _ _ _ (Grow.refl _ _) w (s.set rx i)
end

/-! ### while -/
def whileN (c : FT) (b : FS) : Nat → FS
  | 0 => fun _ _ => .bad
  | n + 1 => fun σ h => match c σ h with
    | .ok true h1 => match b σ h1 with
      | .nx σ2 h2 => whileN c b n σ2 h2
      | .ct σ2 h2 => whileN c b n σ2 h2
      | .bk σ2 h2 => .nx σ2 h2
      | x => x
    | .ok false h1 => .nx σ h1
    | .exc e h1 => .exc e σ h1
    | .bad => .bad
/-- as many turns as any script of ours takes -/
def FUEL : Nat := 1000000000
def dWhile (c : FT) (b : FS) : FS := whileN c b FUEL
theorem ds_while {X : Cx} {W : WX} {c : Expr} {body : List Stmt} {tc : FT} {tb : FS} {pos : Pos} (hp : PassesOwn (model X.prog X.w) X.A X.env X.xe) (hc : PT X c (rT X.K X.mg W tc)) (hb : PSs X body (rS X.K X.mg W tb)) : PS X (.While c body [] pos) (rS X.K X.mg W (dWhile tc tb)) := by
  refine PS.weak (ps_while hp hc hb) fun D τ H q => ?_
  obtain ⟨σ, dh, ρ, w, s, p⟩ := q
  refine ⟨fun m τ' H' => ∃ σ' dh' ρ', Wd X.K X.mg ρ' dh' H' ∧ RepS X.K ρ' H' σ' τ' ∧ PstS X.K X.mg W ρ' H' D (whileN tc tb m σ' dh'), ⟨FUEL, σ, dh, ρ, w, s, p⟩, fun m τ' H' hW => ?_⟩
  obtain ⟨σ', dh', ρ', w', s', p'⟩ := hW
  cases m with
  | zero => exact p'.elim
  | succ m =>
    simp only [whileN] at p'
    refine ⟨σ', dh', ρ', w', s', ?_⟩
    cases e : tc σ' dh' with
    | ok b h1 =>
      simp only [e] at p'
      intro ρ1 H1 b' g1 w1 eb
      subst eb
      cases b with
      | false =>
        rw [if_neg Bool.false_ne_true]
        exact p' _ _ _ g1 w1 (s'.grow g1)
      | true =>
        rw [if_pos rfl]
        refine ⟨fun τ2 H2 => ∃ σ' dh' ρ', Wd X.K X.mg ρ' dh' H2 ∧ RepS X.K ρ' H2 σ' τ2 ∧ PstS X.K X.mg W ρ' H2 D (whileN tc tb m σ' dh'), fun τ2 H2 h2 => ⟨m, Nat.lt_succ_self m, h2⟩, σ', h1, ρ1, w1, s'.grow g1, ?_⟩
        have p2 := p'.grow g1
        cases eb : tb σ' h1 with
        | nx σ2 h2 => simp only [eb] at p2; exact fun ρ4 H4 τ4 g4 w4 s4 => ⟨σ2, h2, ρ4, w4, s4, p2.grow g4⟩
        | ct σ2 h2 => simp only [eb] at p2; exact fun ρ4 H4 τ4 g4 w4 s4 => ⟨σ2, h2, ρ4, w4, s4, p2.grow g4⟩
        | bk σ2 h2 => simp only [eb] at p2; exact p2
        | rt d2 h2 => simp only [eb] at p2; exact p2
        | exc x2 σ2 h2 => simp only [eb] at p2; exact p2
        | bad => simp only [eb] at p2; exact p2
    | exc x h1 =>
      simp only [e] at p'
      exact fun ρ1 H1 c o g1 w1 re => p' _ _ _ _ _ g1 w1 (s'.grow g1) re
    | bad => simp only [e] at p'; exact p'

/-! ### defs -/
abbrev Fn := List D → DH → Res D
/-- the wish of a def's promise -/
abbrev WF (E : XK) : WX := fun c o _ H => E c o H
def spD (K : PySem.W.Frag) (mg : Str → Option Value) (F : Fn) : Sp := fun vs H Q E => ∃ ds dh ρ, Wd K mg ρ dh H ∧ RepL K ρ H ds vs ∧ (∃ n, ds.length = n ∧ vs.length = n) ∧ Pst K mg (Rep K) (WF E) [] ρ H Q (F ds dh)
/-- a def by its body: ps parameters, n names -/
def dDef (ps n : Nat) (body : FS) : Fn := fun ds h => if ds.length = ps then (match body (ds.map some ++ List.replicate (n - ds.length) none) h with
  | .nx _ h1 => .ok .non h1
  | .rt d h1 => .ok d h1
  | .exc e _ h1 => .exc e h1
  | _ => .bad) else .bad
section
variable {P : Program} {w : World} {K : PySem.W.Frag} {mg : Str → Option Value} {base : Heap}
theorem fn_ok {x qual : Str} {st : Stmt} {f : Addr} {fd : FuncData} {N ps : List Str} {k : Nat} {body : FS} (F : Fun K x qual st f fd) (S : FnScope N ps (defScope st))
    (hb : ∀ (cdv : Value) (A : Around) (outer : List Env) (s : Shared) (H : Hp) (E : XK), Room k (A.deeper (envOfC qual (defScope st) s.heap.objs.size f cdv)) →
      PSs (cxOf (L2.CX P w) P w K mg base N qual (defScope st) f cdv A outer s H E) (defBody st) (rS K mg (WF E) body)) :
    FnOk P w K mg base (L2.CX P w) (k + 1) f fd ps (spD K mg (dDef ps.length N.length body)) := by
  refine F.okX S (fun vs H Q E h => ?_) (fun cdv A outer s H vs Q E hr h => ⟨rS K mg (WF E) body, hb cdv A outer s H E hr, ?_⟩)
  · obtain ⟨ds, dh, ρ, w, r, _, p⟩ := h
    unfold dDef at p
    split at p
    · rename_i hl
      rw [← r.length]
      exact hl
    · exact p.elim
  · obtain ⟨ds, dh, ρ, w, r, _, p⟩ := h
    unfold dDef at p
    split at p
    · rename_i hl
      have hlen := r.length
      refine ⟨ds.map some ++ List.replicate (N.length - ds.length) none, dh, ρ, w, ?_, ?_⟩
      · unfold L2.start
        rw [← hlen]
        exact RepS.start _ r
      · cases e : body (ds.map some ++ List.replicate (N.length - ds.length) none) dh with
        | nx σ2 h2 => simp only [e] at p; exact fun ρ4 H4 τ4 g4 w4 s4 => p _ _ _ g4 w4 .non
        | rt d2 h2 => simp only [e] at p; exact p
        | exc x2 σ2 h2 => simp only [e] at p; exact fun ρ4 H4 τ4 c o g4 w4 s4 re => p _ _ _ _ g4 w4 re
        | bk σ2 h2 => simp only [e] at p; exact p.elim
        | ct σ2 h2 => simp only [e] at p; exact p.elim
        | bad => simp only [e] at p; exact p
    · exact p.elim
/-- another function that gives the same where it gives anything -/
theorem FnOk.fn {CX : CXT} {k : Nat} {f : Addr} {fd : FuncData} {ps : List Str} {F G : Fn} (h : FnOk P w K mg base CX k f fd ps (spD K mg F)) (e : ∀ ds dh, G ds dh = .bad ∨ G ds dh = F ds dh) : FnOk P w K mg base CX k f fd ps (spD K mg G) :=
  h.imp fun vs H Q E ⟨ds, dh, ρ, w, r, n, p⟩ => ⟨ds, dh, ρ, w, r, n, by
    rcases e ds dh with z | z
    · rw [z] at p; exact p.elim
    · rw [← z]; exact p⟩
end
def dCall (F : Fn) (g : FA) : FE := fun σ h => (g σ h).bind F
section
variable {X : Cx} {W : WX} {k : Nat} {f : Addr} {fd : FuncData} {ps : List Str} {F : Fn} {x : Str} {p pos : Pos} {e : Expr} {es : List Expr} {g : FA}
theorem rd_call {K : PySem.W.Frag} {mg : Str → Option Value} {τ : L2.St} {H : Hp} {Q : VK} (r : rE K mg W (dCall F g) τ H Q) : tCallS (spD K mg F) (WE W) (rA K mg W g) τ H Q := by
  refine rd.mono (fun vs H1 => ?_) (rd_bind (R := RepL K) (g := fun xs _ h1 => F xs h1) r)
  rintro ⟨xs, σ, dh, ρ, w, s, rx, p⟩
  refine ⟨xs, dh, ρ, w, rx, ⟨_, rx.length, rfl⟩, ?_⟩
  cases e : F xs dh with
  | ok a h => rw [e] at p; exact p
  | exc x h => rw [e] at p; exact p
  | bad => rw [e] at p; exact p
theorem de_call (G : FnOk X.prog X.w X.K X.mg X.base (L2.CX X.prog X.w) k f fd ps (spD X.K X.mg F)) (hr : Room k X.A) (tk : Takes X W) (hm : X.mg x = some (.ref f)) (hk : PySem.W.keepIn X.K (.ref f) = true) (hb : Binds X.K fd ps []) (ha : PA X (e :: es) (rA X.K X.mg W g)) (hg : Gl X x := by rfl)
    (hdb : (x == ("__debug__" : Str)) = false := by decide) (he : starEach (e :: es) X.env = (false, eval e X.env) :: starEach es X.env := by rfl) (hpl : (backTo pos (starEach es X.env)).any (·.1) = false := by rfl) :
    PE X (.Call (.Name x p) (e :: es) [] pos) (rE X.K X.mg W (dCall F g)) :=
  PE.weak (pe_callS G hr hg hm hk hb (fun σ => passAt tk σ) ha hdb he hpl) fun _ _ _ r => rd_call r
theorem de_call0 (G : FnOk X.prog X.w X.K X.mg X.base (L2.CX X.prog X.w) k f fd ps (spD X.K X.mg F)) (hr : Room k X.A) (tk : Takes X W) (hm : X.mg x = some (.ref f)) (hk : PySem.W.keepIn X.K (.ref f) = true) (hb : Binds X.K fd ps []) (hg : Gl X x := by rfl) (hdb : (x == ("__debug__" : Str)) = false := by decide) :
    PE X (.Call (.Name x p) [] [] pos) (rE X.K X.mg W (dCall F dNil)) := by
  refine ⟨fun pins s σ H Q I h => wpAny_Call_Name_kw (ld_glob I hg hm ?_ hdb)⟩
  refine PySem.W.callWith_K0 I.kIn hk (run_fnS (us := []) G hr hb (passAt tk σ) I .nil ?_)
  obtain ⟨σ1, dh, ρ, w, s1, q⟩ := h
  refine ⟨[], dh, ρ, w, .nil, ⟨0, rfl, rfl⟩, ?_⟩
  simp only [dCall, dNil, Res.bind] at q
  cases e : F [] dh with
  | ok a h => rw [e] at q; exact q
  | exc x h => rw [e] at q; exact q
  | bad => rw [e] at q; exact q
end
end DL

/-! The data layer: in, not in, dicts, texts' methods, stores. -/
namespace DL
open PySem PySem.Spec L2
open PyProof.Rows hiding St

/-! ### in, not in -/
def flatD : D → Bool
  | .non => true
  | .bl _ => true
  | .int _ => true
  | .str _ => true
  | _ => false
/-- == of flat data -/
def eqF : D → D → Bool
  | .non, .non => true
  | .bl a, .bl b => a == b
  | .bl a, .int b => (if a then 1 else 0) == b
  | .int a, .bl b => a == (if b then 1 else 0)
  | .int a, .int b => a == b
  | .str a, .str b => a == b
  | _, _ => false
section
variable {K : PySem.W.Frag} {mg : Str → Option Value} {ρ : List Addr} {H : Hp}
theorem flat_rep {d : D} {v : V} (r : Rep K ρ H d v) : flatV v = flatD d ∨ flatD d = false := by
  cases r <;> first | exact .inl rfl | exact .inr rfl
theorem flat_of {d : D} {v : V} (r : Rep K ρ H d v) (f : flatD d = true) : flatV v = true := by
  rcases flat_rep r with e | e
  · rw [e]; exact f
  · rw [f] at e; cases e
theorem flats_of : ∀ {ds : List D} {vs : List V}, RepL K ρ H ds vs → ds.all flatD = true → vs.all flatV = true
  | _, _, .nil, _ => rfl
  | _, _, .cons h r, f => by
    simp only [List.all_cons, Bool.and_eq_true] at f ⊢
    exact ⟨flat_of h f.1, flats_of r f.2⟩
theorem eqF_rep {d e : D} {v u : V} (r : Rep K ρ H d v) (q : Rep K ρ H e u) (f : flatD d = true) (g : flatD e = true) : eqV v u = eqF d e := by
  cases r <;> first | (exact absurd f (by decide)) | skip
  all_goals (cases q <;> first | rfl | (exact absurd g (by decide)))
theorem inF_rep {e : D} {u : V} (q : Rep K ρ H e u) (g : flatD e = true) : ∀ {ds : List D} {vs : List V}, RepL K ρ H ds vs → ds.all flatD = true → inV u vs = ds.any fun d => eqF d e
  | _, _, .nil, _ => rfl
  | _, _, .cons h r, f => by
    simp only [List.all_cons, Bool.and_eq_true] at f
    have ih := inF_rep q g r f.2
    unfold inV at ih ⊢
    rw [List.any_cons, List.any_cons, ih, eqF_rep h q f.1 g]
end
def putKD (kvs : List (Key × D)) (k : Key) (d : D) : List (Key × D) :=
  if kvs.any (fun kv => decide (kv.1 = k)) then kvs.map (fun kv => if kv.1 = k then (kv.1, d) else kv) else kvs ++ [(k, d)]
/-- x in y: a dict's key, a sign or text of a text, a flat item -/
def inD (x y : D) (h : DH) : Option Bool := match y with
  | .str z => match x with
    | .str a => if a.cps.size = 1 then some (decide (a.cps.getD 0 0 ∈ z.cps.toList)) else some (!(Builtin.Str.occurrences z a 0 z.length 1).isEmpty)
    | _ => none
  | .ref n => match h[n]? with
    | some (.dic kvs) => match keyD x with
      | some k => some (getK kvs k).isSome
      | none => none
    | some (.lst ds) => if flatD x = true ∧ ds.all flatD = true then some (ds.any fun d => eqF d x) else none
    | _ => none
  | .tup ds => if flatD x = true ∧ ds.all flatD = true then some (ds.any fun d => eqF d x) else none
  | .rol ds => if flatD x = true ∧ ds.all flatD = true then some (ds.any fun d => eqF d x) else none
  | _ => none
def oIn (x y : D) (h : DH) : Res D := match inD x y h with
  | some b => .ok (.bl b) h
  | none => .bad
def oNotIn (x y : D) (h : DH) : Res D := match inD x y h with
  | some b => .ok (.bl (!b)) h
  | none => .bad
section
variable {K : PySem.W.Frag} {mg : Str → Option Value} {ρ : List Addr} {H : Hp}
/-- x in y as the library's rules answer it -/
def rInX (K : PySem.W.Frag) (neg : Bool) : R2 := fun x y H Q =>
  (∃ (c : Nat) (z : Str), x = .str ⟨#[c]⟩ ∧ y = .str z ∧ Q (.bl (if neg then !decide (c ∈ z.cps.toList) else decide (c ∈ z.cps.toList))) H) ∨
  (∃ i j, x = .str i ∧ y = .str j ∧ Q (.bl (if neg then !(!(Builtin.Str.occurrences j i 0 j.length 1).isEmpty) else !(Builtin.Str.occurrences j i 0 j.length 1).isEmpty)) H) ∨
  rIn K neg x y H Q ∨ (∃ a o, y = .ref a ∧ DGet H a x o ∧ Q (.bl (if neg then !o.isSome else o.isSome)) H)
theorem op_inX {X : Cx} (hu : X.A.units + 1 < cLine) : OpR X (compareOp .In) (rInX X.K false) := by
  intro pins s σ H x y v u Q I rx ry h
  rcases h with h | h | h | h
  · exact op_in_sign pins s σ H x y v u Q I rx ry h
  · exact op_in_str pins s σ H x y v u Q I rx ry h
  · exact op_in_seq pins s σ H x y v u Q I rx ry h
  · obtain ⟨a, o, rfl, g, q⟩ := h
    obtain rfl : u = Value.ref a := ry
    exact d_in hu I g rx fun s3 I3 => ⟨.bl o.isSome, H, I3, rfl, q⟩
theorem op_notInX {X : Cx} (hu : X.A.units + 1 < cLine) : OpR X (compareOp .NotIn) (rInX X.K true) := by
  intro pins s σ H x y v u Q I rx ry h
  rcases h with h | h | h | h
  · exact op_notIn_sign pins s σ H x y v u Q I rx ry h
  · exact op_notIn_str pins s σ H x y v u Q I rx ry h
  · exact op_notIn_seq pins s σ H x y v u Q I rx ry h
  · obtain ⟨a, o, rfl, g, q⟩ := h
    obtain rfl : u = Value.ref a := ry
    exact d_notIn hu I g rx fun s3 I3 => ⟨.bl (!o.isSome), H, I3, rfl, q⟩
theorem inX_of {dh : DH} {x y : D} {v u : V} {b neg : Bool} {Q : VK} (w : Wd K mg ρ dh H) (rx : Rep K ρ H x v) (ry : Rep K ρ H y u) (e : inD x y dh = some b) (q : Q (.bl (if neg then !b else b)) H) : rInX K neg v u H Q := by
  unfold inD at e
  split at e
  · rename_i z
    cases ry
    split at e
    · rename_i a
      cases rx
      split at e
      · rename_i h1
        cases e
        refine .inl ⟨a.cps.getD 0 0, z, ?_, rfl, q⟩
        obtain ⟨⟨l⟩⟩ := a
        match l, h1 with
        | [c], _ => rfl
      · cases e
        exact .inr (.inl ⟨a, z, rfl, rfl, q⟩)
    · cases e
  · rename_i n
    cases ry with
    | @ref _ a ha =>
      split at e
      · rename_i kvs hk
        split at e
        · rename_i k ek
          cases e
          obtain ⟨ks, h1, r1⟩ := w.cellAt hk ha
          have ev := keyD_rep rx ek
          subst ev
          obtain ⟨g1, g2⟩ := getK_rep (k := k) r1
          refine .inr (.inr (.inr ⟨a, valV ks k, rfl, DGet.k h1, ?_⟩))
          cases eg : getK kvs k with
          | none => rw [eg] at q; rw [g2 eg]; exact q
          | some d =>
            obtain ⟨v', h2, _⟩ := g1 d eg
            rw [eg] at q
            rw [h2]
            exact q
        · cases e
      · rename_i ds hk
        split at e
        · rename_i hf
          cases e
          obtain ⟨xs, hx, r1⟩ := cell_lst w hk ha
          exact .inr (.inr (.inl ⟨a, xs, rfl, .inl (SqL.of hx), flat_of rx hf.1, flats_of r1 hf.2, by rw [inF_rep rx hf.1 r1 hf.2]; exact q⟩))
        · cases e
      · cases e
  · rename_i ds
    split at e
    · rename_i hf
      cases e
      cases ry with
      | tup t r1 => exact .inr (.inr (.inl ⟨_, _, rfl, .inr t.sq, flat_of rx hf.1, flats_of r1 hf.2, by rw [inF_rep rx hf.1 r1 hf.2]; exact q⟩))
    · cases e
  · rename_i ds
    split at e
    · rename_i hf
      cases e
      cases ry with
      | rol t r1 => exact .inr (.inr (.inl ⟨_, _, rfl, .inl t.sq, flat_of rx hf.1, flats_of r1 hf.2, by rw [inF_rep rx hf.1 r1 hf.2]; exact q⟩))
    · cases e
  · cases e
theorem os_in : OpS K mg (rInX K false) oIn := by
  intro ρ dh H x y v u Q W τ w rx ry p
  unfold oIn at p
  split at p
  · rename_i b e
    exact inX_of w rx ry e (same_val w (.bl _) p)
  · exact p.elim
theorem os_notIn : OpS K mg (rInX K true) oNotIn := by
  intro ρ dh H x y v u Q W τ w rx ry p
  unfold oNotIn at p
  split at p
  · rename_i b e
    exact inX_of w rx ry e (same_val w (.bl _) p)
  · exact p.elim
end

/-! ### texts -/
section
variable {K : PySem.W.Frag} {mg : Str → Option Value}
/-- str(n), str(text) -/
def bStrX : List D → DH → Res D
  | [.int i], h => if i.natAbs.log2 < 1920 then .ok (.str (toString i)) h else .bad
  | [.str a], h => .ok (.str a) h
  | [.non], h => .ok (.str "None") h
  | _, _ => .bad
def rStrX : List V → Hp → VK → Prop := fun xs H Q => (∃ i, xs = [.int i] ∧ i.natAbs.log2 < 1920 ∧ Q (.str (toString i)) H) ∨ ((∃ a, xs = [.str a] ∧ Q (.str a) H) ∨ (xs = [.non] ∧ Q (.str "None") H))
theorem call_strN {X : Cx} : CallR X (.type "str") (fun xs H Q => xs = [.non] ∧ Q (.str "None") H) := by
  intro pins s σ H xs us Q I r h
  obtain ⟨rfl, q⟩ := h
  obtain ⟨u, rfl, e⟩ := vals1 r
  cases e
  exact PySem.P.str_of_none ⟨.str "None", H, I.tok _, ⟨_, rfl⟩, q⟩
theorem call_strX {X : Cx} : CallR X (.type "str") rStrX := CallR.or call_str_int (CallR.or SkE.call_str_str call_strN)
theorem cs_strX : CallS K mg rStrX bStrX := by
  intro ρ dh H ds vs Q W τ w rx p
  unfold bStrX at p
  split at p
  · obtain ⟨v, rfl, r⟩ := rx.inv1
    cases r
    split at p
    · rename_i hl
      exact .inl ⟨_, rfl, hl, same_val w (.str _) p⟩
    · exact p.elim
  · obtain ⟨v, rfl, r⟩ := rx.inv1
    cases r
    exact .inr (.inl ⟨_, rfl, same_val w (.str _) p⟩)
  · obtain ⟨v, rfl, r⟩ := rx.inv1
    cases r
    exact .inr (.inr ⟨rfl, same_val w (.str _) p⟩)
  · exact p.elim
def mJoin : D → List D → DH → Res D
  | .str a, [x], h => match itemsD h x with
    | some ds => match strsD ds with
      | some ys => if (ys.map (·.length)).sum + ys.length * a.length ≤ 16777216 then .ok (.str (Txt.join a ys)) h else .bad
      | none => .bad
    | none => .bad
  | _, _, _ => .bad
theorem ms_join : MetS K mg (fun x xs H Q => ∃ a p, ∃ ys : List Str, x = .str a ∧ xs = [.ref p] ∧ (SqL K H p (ys.map V.str) ∨ SqT K H p (ys.map V.str)) ∧ (ys.map (·.length)).sum + ys.length * a.length ≤ 16777216 ∧ Q (.str (Txt.join a ys)) H) mJoin := by
  intro ρ dh H x v ds vs Q W τ w rx rs p
  unfold mJoin at p
  split at p
  · obtain ⟨u, rfl, ry⟩ := rs.inv1
    cases rx
    split at p
    · rename_i ds e
      split at p
      · rename_i ys e2
        split at p
        · rename_i hl
          obtain ⟨b, xs, rfl, hq, r⟩ := itemsD_rep w ry e
          have ex := strsD_rep r e2
          subst ex
          exact ⟨_, b, ys, rfl, rfl, hq, hl, same_val w (.str _) p⟩
        · exact p.elim
      · exact p.elim
    · exact p.elim
  · exact p.elim
def mSplit : D → List D → DH → Res D
  | .str a, [.str b], h => if (b.length == 0) = false ∧ a.length + 2 ≤ 16777216 then .ok (.ref h.length) (h ++ [.lst ((Txt.split a b).map D.str)]) else .bad
  | _, _, _ => .bad
theorem rep_strs {ρ : List Addr} {H : Hp} : ∀ ys : List Str, RepL K ρ H (ys.map D.str) (ys.map V.str)
  | [] => .nil
  | y :: r => .cons (.str y) (rep_strs r)
theorem ms_split : MetS K mg (fun x xs H Q => ∃ a b, x = .str a ∧ xs = [.str b] ∧ (b.length == 0) = false ∧ a.length + 2 ≤ sizeLine ∧ rNewStrs (Txt.split a b) H Q) mSplit := by
  intro ρ dh H x v ds vs Q W τ w rx rs p
  unfold mSplit at p
  split at p
  · obtain ⟨u, rfl, ry⟩ := rs.inv1
    cases rx
    cases ry
    split at p
    · rename_i hl
      exact ⟨_, _, rfl, rfl, hl.1, size_lim hl.2, new_lst w (rep_strs _) p⟩
    · exact p.elim
  · exact p.elim
end

/-! ### o[i] = v -/
def sPut (o i v : D) (h : DH) : Res D := match o with
  | .ref n => match h[n]? with
    | some (.lst ds) => match i with
      | .int k => match ixN ds.length k with
        | some j => .ok .non (h.set n (.lst (ds.set j v)))
        | none => .bad
      | _ => .bad
    | some (.dic kvs) => match keyD i with
      | some k => if kvs.length < 16777216 then .ok .non (h.set n (.dic (putKD kvs k v))) else .bad
      | none => .bad
    | _ => .bad
  | _ => .bad
def dPut (fo fi fv : FE) : FS := fun σ h => dThen fv (fun v => dThen fo fun o => dThen fi fun i => fun σ h => match sPut o i v h with
  | .ok _ h' => .nx σ h'
  | _ => .bad) σ h
section
variable {K : PySem.W.Frag} {mg : Str → Option Value} {ρ : List Addr} {H : Hp}
theorem putKD_rep {k : Key} {d : D} {v : V} (r : Rep K ρ H d v) {kvs : List (Key × D)} {ks : List (Key × V)} (q : RepK K ρ H kvs ks) : RepK K ρ H (putKD kvs k d) (putK ks k v) := by
  unfold putKD putK
  have e : kvs.any (fun kv => decide (kv.1 = k)) = ks.any (fun kv => decide (kv.1 = k)) := by
    induction q with
    | nil => rfl
    | cons h _ ih => rw [List.any_cons, List.any_cons, ih, h.1]
  rw [e]
  have m : ∀ {kvs : List (Key × D)} {ks : List (Key × V)}, RepK K ρ H kvs ks → RepK K ρ H (kvs.map fun kv => if kv.1 = k then (kv.1, d) else kv) (ks.map fun kv => if kv.1 = k then (kv.1, v) else kv) := fun q => by
    induction q with
    | nil => exact .nil
    | @cons a b l1 l2 h _ ih =>
      refine .cons ?_ ih
      show (if a.1 = k then (a.1, d) else a).1 = (if b.1 = k then (b.1, v) else b).1 ∧ Rep K ρ H (if a.1 = k then (a.1, d) else a).2 (if b.1 = k then (b.1, v) else b).2
      by_cases z : a.1 = k
      · have z2 : b.1 = k := h.1 ▸ z
        rw [if_pos z, if_pos z2]
        exact ⟨h.1, r⟩
      · have z2 : ¬ b.1 = k := h.1 ▸ z
        rw [if_neg z, if_neg z2]
        exact h
  have ap : ∀ {kvs : List (Key × D)} {ks : List (Key × V)}, RepK K ρ H kvs ks → RepK K ρ H (kvs ++ [(k, d)]) (ks ++ [(k, v)]) := fun q => by
    induction q with
    | nil => exact .cons ⟨rfl, r⟩ .nil
    | cons h _ ih => exact .cons h ih
  split
  · exact m q
  · exact ap q
def rSetX : V → V → V → Hp → (Hp → Prop) → Prop := fun o i v H Q => rSetL o i v H Q ∨ ∃ a H', o = .ref a ∧ DPut H a i v H' ∧ Q H'
theorem set_X {X : Cx} (hu : X.A.units + 1 < cLine) : PSet X rSetX := by
  intro pins s σ H o i v ov iv u Q I ro ri rv h
  rcases h with h | ⟨a, H', rfl, g, q⟩
  · exact set_list pins s σ H o i v ov iv u Q I ro ri rv h
  · obtain rfl : ov = Value.ref a := ro
    exact d_setItem hu I g ri rv fun s' I' => ⟨H', I', q⟩
end
theorem ds_put {X : Cx} {W : WX} {o i e : Expr} {fo fi fv : FE} {pos pos' : Pos} (hu : X.A.units + 1 < cLine) (ho : PE X o (rE X.K X.mg W fo)) (hi : PE X i (rE X.K X.mg W fi)) (he : PE X e (rE X.K X.mg W fv))
    (ha : ∀ v, assign (.Subscript o i pos') X.env v = (do
      let ov ← holding [v] (eval o X.env)
      let iv ← holding [v, ov] (eval i X.env)
      standAt pos'
      holding [v, ov, iv] (setItem ov iv v)
      release [v, ov, iv] []) := by intro _; rfl)
    (hs : swapsWithSole [.Subscript o i pos'] e pos.line X.env = pure false := by rfl) (hw : swappedStores [.Subscript o i pos'] e X.env = pure none := by rfl)
    (h1 : (assignEach [.Subscript o i pos'] X.env).map (·.2) = [assign (.Subscript o i pos') X.env] := by rfl) : PS X (.Assign [.Subscript o i pos'] e pos) (rS X.K X.mg W (dPut fo fi fv)) := by
  refine PS.weak (ps_asg he (pg_sub ho hi (set_X hu) ha) hs hw h1) fun D τ H r => ?_
  refine rd.mono (fun v H1 => ?_) (rS_then (R := Rep X.K) r)
  rintro ⟨x, σ, dh, ρ, w, s, rx, p⟩
  -- the object, then the index; the value's data grows along
  have p1 : rS X.K X.mg W (dThen fo fun o => dThen fi fun i => fun σ h => match sPut o i x h with | .ok _ h' => .nx σ h' | _ => .bad) D τ H1 → True := fun _ => trivial
  refine ⟨σ, dh, ρ, w, s, ?_⟩
  unfold dThen at p
  cases e1 : fo σ dh with
  | exc z h2 => simp only [e1] at p; exact fun ρ2 H2 c o g2 w2 re => p _ _ _ _ _ g2 w2 (s.grow g2) re
  | bad => simp only [e1] at p; exact p
  | ok o' h2 =>
    simp only [e1] at p
    intro ρ2 H2 ov g2 w2 ro
    refine ⟨σ, h2, ρ2, w2, s.grow g2, ?_⟩
    have p2 := p.grow g2
    cases e2 : fi σ h2 with
    | exc z h3 => simp only [e2] at p2; exact fun ρ3 H3 c o g3 w3 re => p2 _ _ _ _ _ g3 w3 ((s.grow g2).grow g3) re
    | bad => simp only [e2] at p2; exact p2
    | ok i' h3 =>
      simp only [e2] at p2
      intro ρ3 H3 iv g3 w3 ri
      have p3 := p2.grow g3
      have ro3 := ro.grow g3
      have rx3 := rx.grow (g2.trans g3)
      have s3 := s.grow (g2.trans g3)
      unfold sPut at p3
      cases ro3 with
      | @ref n a ha =>
        simp only at p3
        cases hk : h3[n]? with
        | none => simp only [hk] at p3; exact p3.elim
        | some c =>
          cases c with
          | lst ds =>
            simp only [hk] at p3
            cases ri <;> first | exact p3.elim | skip
            rename_i k
            simp only at p3
            cases hj : ixN ds.length k with
            | none => simp only [hj] at p3; exact p3.elim
            | some j =>
              simp only [hj] at p3
              obtain ⟨xs, hx, rl⟩ := cell_lst w3 hk ha
              have g5 : Grow ρ3 H3 ρ3 (upd H3 a (.lst (xs.set j v))) := grow_put hx trivial
              exact .inl ⟨a, xs, k, j, rfl, rfl, hx, by rw [← rl.length]; exact hj, p3 _ _ _ g5 (w3.put (c := .lst (ds.set j x)) ha hx trivial ⟨_, upd_same, (rl.set rx3 j).grow g5⟩) (s3.grow g5)⟩
          | dic kvs =>
            simp only [hk] at p3
            cases ek : keyD i' with
            | none => simp only [ek] at p3; exact p3.elim
            | some k =>
              simp only [ek] at p3
              split at p3
              · rename_i h' eh
                split at eh
                · rename_i hl
                  cases eh
                  obtain ⟨ks, hx, rl⟩ := w3.cellAt hk ha
                  have ev := keyD_rep ri ek
                  subst ev
                  have hlen : kvs.length = ks.length := Paired.length rl
                  have g5 : Grow ρ3 H3 ρ3 (upd H3 a (.dK (putK ks k v))) := grow_put hx trivial
                  exact .inr ⟨a, _, rfl, DPut.k hx (size_lt (by rw [← hlen]; exact hl)), p3 _ _ _ g5 (w3.put (c := .dic (putKD kvs k x)) ha hx trivial ⟨_, upd_same, (putKD_rep rx3 rl).grow g5⟩) (s3.grow g5)⟩
                · cases eh
              · exact p3.elim
          | ldic kvs => simp only [hk] at p3; exact p3.elim
          | obj c fs => simp only [hk] at p3; exact p3.elim
      | _ => exact p3.elim
/-- {} -/
def dNewD : FE := fun _ h => .ok (.ref h.length) (h ++ [.dic []])
theorem de_newD {X : Cx} {W : WX} {pos : Pos} : PE X (.Dict [] [] pos) (rE X.K X.mg W dNewD) :=
  PE.weak pe_dnewK fun _ _ _ ⟨_, _, _, w, _, p⟩ => new_cell w p fun a ha => ⟨[], upd_same, .nil⟩
end DL
namespace DL
open PySem PySem.Spec L2
open PyProof.Rows hiding St
/-- a def of the text that keeps its function's promise, as a caller wants it -/
def Has (P : Program) (w : World) (K : PySem.W.Frag) (mg : Str → Option Value) (base : Heap) (k : Nat) (x : Str) (ps : List Str) (F : Fn) : Prop :=
  ∃ (f : Addr) (fd : FuncData), FnOk P w K mg base (L2.CX P w) k f fd ps (spD K mg F) ∧ mg x = some (.ref f) ∧ PySem.W.keepIn K (.ref f) = true ∧ Binds K fd ps []
section
variable {X : Cx} {W : WX} {k j : Nat} {ps : List Str} {F : Fn} {x : Str} {p pos : Pos} {e : Expr} {es : List Expr} {g : FA}
theorem de_has (h : Has X.prog X.w X.K X.mg X.base k x ps F) (hr : Room j X.A) (hk : k ≤ j) (tk : Takes X W) (ha : PA X (e :: es) (rA X.K X.mg W g)) (hg : Gl X x := by rfl)
    (hdb : (x == ("__debug__" : Str)) = false := by decide) (he : starEach (e :: es) X.env = (false, eval e X.env) :: starEach es X.env := by rfl) (hpl : (backTo pos (starEach es X.env)).any (·.1) = false := by rfl) :
    PE X (.Call (.Name x p) (e :: es) [] pos) (rE X.K X.mg W (dCall F g)) := by
  obtain ⟨f, fd, G, hm, hkp, hb⟩ := h
  exact de_call G (hr.mono hk) tk hm hkp hb ha hg hdb he hpl
theorem de_has0 (h : Has X.prog X.w X.K X.mg X.base k x ps F) (hr : Room j X.A) (hk : k ≤ j) (tk : Takes X W) (hg : Gl X x := by rfl) (hdb : (x == ("__debug__" : Str)) = false := by decide) :
    PE X (.Call (.Name x p) [] [] pos) (rE X.K X.mg W (dCall F dNil)) := by
  obtain ⟨f, fd, G, hm, hkp, hb⟩ := h
  exact de_call0 G (hr.mono hk) tk hm hkp hb hg hdb
end
section
variable {P : Program} {w : World} {K : PySem.W.Frag} {mg : Str → Option Value} {base : Heap}
/-- another promise for the same def -/
theorem Has.imp {k : Nat} {x : Str} {ps : List Str} {F G : Fn} (h : Has P w K mg base k x ps F) (e : ∀ vs H Q E, spD K mg G vs H Q E → spD K mg F vs H Q E) : Has P w K mg base k x ps G := by
  obtain ⟨f, fd, Gk, hm, hkp, hb⟩ := h
  exact ⟨f, fd, Gk.imp e, hm, hkp, hb⟩
end
/-- a law's promise: called with the script it gives True -/
def spLaw (K : PySem.W.Frag) : Sp := fun vs H Q _ => ∃ (a : Addr) (ns : List Int), vs = [.ref a] ∧ Rol K H a (ns.map V.int) ∧ ns.length ≤ 63 ∧ (∀ b, H b = none ∨ ∃ o xs, H b = some (.frz o (.lst xs))) ∧ ∀ H', Q (.bl true) H'
/-- the script as data -/
def script (ns : List Int) : D := .rol (ns.map D.int)
theorem rep_ints {K : PySem.W.Frag} {ρ : List Addr} {H : Hp} : ∀ ns : List Int, RepL K ρ H (ns.map D.int) (ns.map V.int)
  | [] => .nil
  | n :: r => .cons (.int n) (rep_ints r)
theorem law_imp {K : PySem.W.Frag} {mg : Str → Option Value} {F : Fn} (h : ∀ ns : List Int, ns.length ≤ 63 → ∃ dh, F [script ns] [] = .ok (.bl true) dh) : ∀ vs H Q E, spLaw K vs H Q E → spD K mg F vs H Q E := by
  rintro vs H Q E ⟨a, ns, rfl, hr, hl, _, q⟩
  obtain ⟨dh, e⟩ := h ns hl
  refine ⟨[script ns], [], [], ⟨rfl, List.nodup_nil, fun i c a hi => (nomatch hi)⟩, .one (.rol hr (rep_ints ns)), ⟨1, rfl, rfl⟩, ?_⟩
  rw [e]
  intro ρ' H' v g w r
  cases r
  exact q H'
theorem rol_only {K : PySem.W.Frag} {H : Hp} {a : Addr} {xs : List V} (ho : Only H) (h : SqL K H a xs) : Rol K H a xs := by
  rcases h with (e | ⟨o, e⟩) | h
  · rcases ho a with z | ⟨o, ys, z⟩
    · rw [z] at e; cases e
    · rw [z] at e; cases e
  · exact .inl ⟨o, e⟩
  · exact .inr h
end DL

/-! The data layer: what a def leaves behind is forgotten (Trim); where a def stands (Here). -/
namespace DL
open PySem PySem.Spec L2
open PyProof.Rows hiding St

mutual
/-- no cell in it -/
def closed : D → Bool
  | .ref _ => false
  | .tup ds => closeds ds
  | .rol ds => closeds ds
  | .exn0 .. => false
  | .exn1 .. => false
  | _ => true
def closeds : List D → Bool
  | [] => true
  | d :: ds => closed d && closeds ds
end
def closedC : Cell → Bool
  | .lst ds => closeds ds
  | .dic kvs => closeds (kvs.map (·.2))
  | .ldic kvs => closeds (kvs.map (·.2))
  | .obj _ fs => closeds (fs.map (·.2))
mutual
/-- no cell in it but old ones -/
def lowD (N : Nat) : D → Bool
  | .ref k => decide (k < N)
  | .tup ds => lowDs N ds
  | .rol ds => lowDs N ds
  | .exn0 .. => false
  | .exn1 .. => false
  | _ => true
def lowDs (N : Nat) : List D → Bool
  | [] => true
  | d :: ds => lowD N d && lowDs N ds
end
def lowC (N : Nat) : Cell → Bool
  | .lst ds => lowDs N ds
  | .dic kvs => lowDs N (kvs.map (·.2))
  | .ldic kvs => lowDs N (kvs.map (·.2))
  | .obj _ fs => lowDs N (fs.map (·.2))
mutual
theorem low_cl {N : Nat} : ∀ {d : D}, closed d = true → lowD N d = true
  | .non, _ => rfl
  | .bl _, _ => rfl
  | .int _, _ => rfl
  | .str _, _ => rfl
  | .tup ds, h => by
    rw [lowD]
    exact lows_cl (by simpa only [closed] using h)
  | .rol ds, h => by
    rw [lowD]
    exact lows_cl (by simpa only [closed] using h)
  | .ref _, h => by simp [closed] at h
  | .exn0 .., h => by simp [closed] at h
  | .exn1 .., h => by simp [closed] at h
theorem lows_cl {N : Nat} : ∀ {ds : List D}, closeds ds = true → lowDs N ds = true
  | [], _ => rfl
  | d :: ds, h => by
    simp only [closeds, Bool.and_eq_true] at h
    rw [lowDs, low_cl h.1, lows_cl h.2]
    rfl
end
theorem lowC_cl {N : Nat} {c : Cell} (h : closedC c = true) : lowC N c = true := by
  cases c <;> exact lows_cl h
theorem lows_all {N : Nat} : ∀ ds : List D, lowDs N ds = ds.all (lowD N)
  | [] => rfl
  | d :: ds => by rw [lowDs, List.all_cons, lows_all ds]
theorem closeds_all : ∀ ds : List D, closeds ds = ds.all closed
  | [] => rfl
  | d :: ds => by rw [closeds, List.all_cons, closeds_all ds]
theorem closeds_append {a b : List D} (ha : closeds a = true) (hb : closeds b = true) : closeds (a ++ b) = true := by
  rw [closeds_all] at *
  rw [List.all_append, ha, hb]
  rfl
section
variable {K : PySem.W.Frag} {mg : Str → Option Value} {ρ ρ' : List Addr} {H H' : Hp}
mutual
theorem Rep.any : ∀ {d : D} {v : V}, Rep K ρ H d v → closed d = true → Rep K ρ' H d v
  | _, _, .non, _ => .non
  | _, _, .bl b, _ => .bl b
  | _, _, .int i, _ => .int i
  | _, _, .str x, _ => .str x
  | _, _, .tup t r, c => .tup t (RepL.any r (by simpa only [closed] using c))
  | _, _, .rol t r, c => .rol t (RepL.any r (by simpa only [closed] using c))
  | _, _, .ref _, c => by simp [closed] at c
  | _, _, .exn0, c => by simp [closed] at c
  | _, _, .exn1 .., c => by simp [closed] at c
theorem RepL.any : ∀ {ds : List D} {vs : List V}, RepL K ρ H ds vs → closeds ds = true → RepL K ρ' H ds vs
  | _, _, .nil, _ => .nil
  | _, _, .cons h r, c => by
    simp only [closeds, Bool.and_eq_true] at c
    exact .cons (Rep.any h c.1) (RepL.any r c.2)
end
mutual
/-- what leans on the old cells alone leans on any extension of them -/
theorem Rep.swap {r r' : List Addr} : ∀ {d : D} {v v0 : V}, Rep K ρ H d v0 → Rep K (ρ ++ r) H' d v → Rep K (ρ ++ r') H' d v
  | _, _, _, .non, h => by cases h; exact .non
  | _, _, _, .bl b, h => by cases h; exact .bl b
  | _, _, _, .int i, h => by cases h; exact .int i
  | _, _, _, .str x, h => by cases h; exact .str x
  | _, _, _, .tup _ r0, h => by
    cases h with
    | tup t q => exact .tup t (RepL.swap r0 q)
  | _, _, _, .rol _ r0, h => by
    cases h with
    | rol t q => exact .rol t (RepL.swap r0 q)
  | _, _, _, .ref h0, h => by
    cases h with
    | ref h =>
      refine .ref ?_
      have hl := (List.getElem?_eq_some_iff.mp h0).1
      rw [List.getElem?_append_left hl] at h ⊢
      exact h
  | _, _, _, .exn0, h => by cases h; exact .exn0
  | _, _, _, .exn1 _ r0, h => by
    cases h with
    | exn1 hx q => exact .exn1 hx (Rep.swap r0 q)
theorem RepL.swap {r r' : List Addr} : ∀ {ds : List D} {vs vs0 : List V}, RepL K ρ H ds vs0 → RepL K (ρ ++ r) H' ds vs → RepL K (ρ ++ r') H' ds vs
  | _, _, _, .nil, h => by cases h; exact .nil
  | _, _, _, .cons h0 r0, h => by
    cases h with
    | cons h1 r1 => exact .cons (Rep.swap h0 h1) (RepL.swap r0 r1)
end
theorem RepK.any {α : Type} : ∀ {kvs : List (α × D)} {ks : List (α × V)}, Paired (fun p q => p.1 = q.1 ∧ Rep K ρ H p.2 q.2) kvs ks → closeds (kvs.map (·.2)) = true → Paired (fun p q => p.1 = q.1 ∧ Rep K ρ' H p.2 q.2) kvs ks
  | _, _, .nil, _ => .nil
  | _, _, .cons h r, c => by
    simp only [List.map_cons, closeds, Bool.and_eq_true] at c
    exact .cons ⟨h.1, h.2.any c.1⟩ (RepK.any r c.2)
theorem RepK.swap {α : Type} {r r' : List Addr} : ∀ {kvs : List (α × D)} {ks ks0 : List (α × V)}, Paired (fun p q => p.1 = q.1 ∧ Rep K ρ H p.2 q.2) kvs ks0 → Paired (fun p q => p.1 = q.1 ∧ Rep K (ρ ++ r) H' p.2 q.2) kvs ks → Paired (fun p q => p.1 = q.1 ∧ Rep K (ρ ++ r') H' p.2 q.2) kvs ks
  | _, _, _, .nil, h => by cases h; exact .nil
  | _, _, _, .cons h0 r0, h => by
    cases h with
    | cons h1 r1 => exact .cons ⟨h1.1, h0.2.swap h1.2⟩ (RepK.swap r0 r1)
mutual
theorem Rep.low {r : List Addr} : ∀ {d : D} {v : V}, Rep K (ρ ++ r) H d v → lowD ρ.length d = true → Rep K ρ H d v
  | _, _, .non, _ => .non
  | _, _, .bl b, _ => .bl b
  | _, _, .int i, _ => .int i
  | _, _, .str x, _ => .str x
  | _, _, .tup t q, c => .tup t (RepL.low q (by simpa only [lowD] using c))
  | _, _, .rol t q, c => .rol t (RepL.low q (by simpa only [lowD] using c))
  | _, _, .ref (n := k) (a := a) h, c => by
    have hl : k < ρ.length := by simpa [lowD] using c
    rw [List.getElem?_append_left hl] at h
    exact .ref h
  | _, _, .exn0, c => by simp [lowD] at c
  | _, _, .exn1 .., c => by simp [lowD] at c
theorem RepL.low {r : List Addr} : ∀ {ds : List D} {vs : List V}, RepL K (ρ ++ r) H ds vs → lowDs ρ.length ds = true → RepL K ρ H ds vs
  | _, _, .nil, _ => .nil
  | _, _, .cons h q, c => by
    simp only [lowDs, Bool.and_eq_true] at c
    exact .cons (Rep.low h c.1) (RepL.low q c.2)
end
theorem RepK.low {α : Type} {r : List Addr} : ∀ {kvs : List (α × D)} {ks : List (α × V)}, Paired (fun p q => p.1 = q.1 ∧ Rep K (ρ ++ r) H p.2 q.2) kvs ks → lowDs ρ.length (kvs.map (·.2)) = true → Paired (fun p q => p.1 = q.1 ∧ Rep K ρ H p.2 q.2) kvs ks
  | _, _, .nil, _ => .nil
  | _, _, .cons h q, c => by
    simp only [List.map_cons, lowDs, Bool.and_eq_true] at c
    exact .cons ⟨h.1, h.2.low c.1⟩ (RepK.low q c.2)
theorem CellOk.low {a : Addr} {c : Cell} {r : List Addr} (h : CellOk K mg (ρ ++ r) H a c) (hc : lowC ρ.length c = true) : CellOk K mg ρ H a c := by
  cases c with
  | lst ds => obtain ⟨xs, q, r⟩ := h; exact ⟨xs, q, r.low hc⟩
  | dic kvs => obtain ⟨xs, q, r⟩ := h; exact ⟨xs, q, RepK.low r hc⟩
  | ldic kvs => obtain ⟨o, xs, q, r⟩ := h; exact ⟨o, xs, q, RepK.low r hc⟩
  | obj c fs => obtain ⟨C, dx, xs, m, q, r⟩ := h; exact ⟨C, dx, xs, m, q, RepK.low r hc⟩
theorem CellOk.any {a : Addr} {c : Cell} (h : CellOk K mg ρ H a c) (hc : closedC c = true) : CellOk K mg ρ' H a c := by
  cases c with
  | lst ds => obtain ⟨xs, q, r⟩ := h; exact ⟨xs, q, r.any hc⟩
  | dic kvs => obtain ⟨xs, q, r⟩ := h; exact ⟨xs, q, RepK.any r hc⟩
  | ldic kvs => obtain ⟨o, xs, q, r⟩ := h; exact ⟨o, xs, q, RepK.any r hc⟩
  | obj c fs => obtain ⟨C, dx, xs, m, q, r⟩ := h; exact ⟨C, dx, xs, m, q, RepK.any r hc⟩
theorem CellOk.swap {a a0 : Addr} {c : Cell} {r r' : List Addr} (h0 : CellOk K mg ρ H a0 c) (h : CellOk K mg (ρ ++ r) H' a c) : CellOk K mg (ρ ++ r') H' a c := by
  cases c with
  | lst ds => obtain ⟨xs0, _, r0⟩ := h0; obtain ⟨xs, q, r⟩ := h; exact ⟨xs, q, r0.swap r⟩
  | dic kvs => obtain ⟨xs0, _, r0⟩ := h0; obtain ⟨xs, q, r⟩ := h; exact ⟨xs, q, RepK.swap r0 r⟩
  | ldic kvs => obtain ⟨_, xs0, _, r0⟩ := h0; obtain ⟨o, xs, q, r⟩ := h; exact ⟨o, xs, q, RepK.swap r0 r⟩
  | obj c fs => obtain ⟨_, _, xs0, _, _, r0⟩ := h0; obtain ⟨C, dx, xs, m, q, r⟩ := h; exact ⟨C, dx, xs, m, q, RepK.swap r0 r⟩
end
/-- the old cells, some of them written with closed data -/
def Kept (dh dh2 : DH) : Prop := dh2.length = dh.length ∧ ∀ (i : Nat) (c : Cell), dh2[i]? = some c → dh[i]? = some c ∨ lowC dh.length c = true
theorem Kept.refl (dh : DH) : Kept dh dh := ⟨rfl, fun _ _ h => .inl h⟩
theorem Kept.setL {dh dh2 : DH} {n : Nat} {c : Cell} (k : Kept dh dh2) (hc : lowC dh.length c = true) : Kept dh (dh2.set n c) := by
  refine ⟨by rw [List.length_set]; exact k.1, fun i x h => ?_⟩
  by_cases e : n = i
  · subst e
    rw [List.getElem?_set_self'] at h
    cases hd : dh2[n]? with
    | none => rw [hd] at h; cases h
    | some z => rw [hd] at h; cases h; exact .inr hc
  · rw [List.getElem?_set_ne e] at h
    exact k.2 i x h
theorem Kept.set {dh dh2 : DH} {n : Nat} {c : Cell} (k : Kept dh dh2) (hc : closedC c = true) : Kept dh (dh2.set n c) := k.setL (lowC_cl hc)
/-- what may be told of a result in its place -/
inductive Trim (dh : DH) : Res D → Res D → Prop
  | bad (r : Res D) : Trim dh r .bad
  | same (r : Res D) : Trim dh r r
  | val {d : D} {dh2 g : DH} : lowD dh.length d = true → Kept dh dh2 → Trim dh (.ok d (dh2 ++ g)) (.ok d dh2)
  | old {n : Nat} {dh2 g : DH} : n < dh.length → Kept dh dh2 → Trim dh (.ok (.ref n) (dh2 ++ g)) (.ok (.ref n) dh2)
  | lst {k : Nat} {c : Cell} {dh2 g : DH} : dh2.length ≤ k → (dh2 ++ g)[k]? = some c → lowC dh.length c = true → Kept dh dh2 → Trim dh (.ok (.ref k) (dh2 ++ g)) (.ok (.ref dh2.length) (dh2 ++ [c]))
  | exc {e : Exv} {dh2 g : DH} : lowDs dh.length (e.fs.map (·.2)) = true → Kept dh dh2 → Trim dh (.exc e (dh2 ++ g)) (.exc e dh2)
section
variable {K : PySem.W.Frag} {mg : Str → Option Value} {ρ ρ' : List Addr} {H H' : Hp} {dh dh2 g : DH}
theorem Wd.cut (w : Wd K mg ρ dh H) (gr : Grow ρ H ρ' H') (w' : Wd K mg ρ' (dh2 ++ g) H') (k : Kept dh dh2) : Grow ρ H ρ H' ∧ Wd K mg ρ dh2 H' := by
  obtain ⟨r, e⟩ := gr.pre
  subst e
  refine ⟨⟨⟨[], by rw [List.append_nil]⟩, gr.tup, gr.frz, gr.xd⟩, ⟨by rw [k.1]; exact w.len, w.nd, fun i c a hi ha => ?_⟩⟩
  have h1 : (dh2 ++ g)[i]? = some c := by
    rw [List.getElem?_append_left (List.getElem?_eq_some_iff.mp hi).1]
    exact hi
  have h2 : (ρ ++ r)[i]? = some a := by
    rw [List.getElem?_append_left (List.getElem?_eq_some_iff.mp ha).1]
    exact ha
  have q := w'.at_ i c a h1 h2
  rcases k.2 i c hi with z | z
  · have q2 := CellOk.swap (r' := []) (w.at_ i c a z ha) q
    rw [List.append_nil] at q2
    exact q2
  · exact q.low (by rw [w.len]; exact z)
theorem Trim.pst {rF rG : Res D} {W : WX} {τ : L2.St} {Q : VK} (t : Trim dh rF rG) (w : Wd K mg ρ dh H) (p : Pst K mg (Rep K) W τ ρ H Q rG) : Pst K mg (Rep K) W τ ρ H Q rF := by
  cases t with
  | bad => exact p.elim
  | same => exact p
  | val hc k =>
    intro ρ' H' v gr w' r
    obtain ⟨g2, w2⟩ := w.cut gr w' k
    obtain ⟨r2, e⟩ := gr.pre
    subst e
    exact p _ _ _ g2 w2 (r.low (by rw [w.len]; exact hc))
  | old hn k =>
    intro ρ' H' v gr w' r
    obtain ⟨g2, w2⟩ := w.cut gr w' k
    cases r with
    | ref ha =>
      obtain ⟨r, e⟩ := gr.pre
      subst e
      rw [List.getElem?_append_left (by rw [w.len]; exact hn)] at ha
      exact p _ _ _ g2 w2 (.ref ha)
  | @lst k c dh2 g hk hc hcl kp =>
    intro ρ' H' v gr w' r
    cases r with
    | @ref _ a ha =>
      obtain ⟨g2, w2⟩ := w.cut gr w' kp
      have ck : CellOk K mg (ρ ++ [a]) H' a c := by
        obtain ⟨r2, e⟩ := gr.pre
        subst e
        exact ((w'.at_ k c a hc ha).low (by rw [w.len]; exact hcl)).grow ⟨⟨[a], rfl⟩, fun _ _ e => e, fun _ _ _ e _ => e, fun _ _ e => e⟩ rfl
      have hnin : a ∉ ρ := fun m => by
        obtain ⟨j, hj, e⟩ := List.getElem_of_mem m
        obtain ⟨r, e2⟩ := gr.pre
        have h3 : ρ'[j]? = some a := by
          rw [e2, List.getElem?_append_left hj, List.getElem?_eq_getElem hj, e]
        have := nd_ix w'.nd h3 ha
        have hl := w.len
        have hl2 := kp.1
        omega
      refine p (ρ ++ [a]) H' (.ref a) ⟨⟨[a], rfl⟩, gr.tup, gr.frz, gr.xd⟩ ⟨?_, ?_, fun i x b hi hb => ?_⟩ (.ref ?_)
      · rw [List.length_append, List.length_append, w2.len]
        rfl
      · rw [List.nodup_append]
        exact ⟨w.nd, by simp, fun x hx y hy e => by
          rw [List.mem_singleton] at hy
          subst hy
          subst e
          exact hnin hx⟩
      · by_cases hl : i < dh2.length
        · rw [List.getElem?_append_left hl] at hi
          rw [List.getElem?_append_left (by rw [w2.len]; exact hl)] at hb
          exact (w2.at_ i x b hi hb).grow ⟨⟨[a], rfl⟩, fun _ _ e => e, fun _ _ _ e _ => e, fun _ _ e => e⟩ rfl
        · have hl2 : i < (dh2 ++ [c]).length := (List.getElem?_eq_some_iff.mp hi).1
          rw [List.length_append] at hl2
          have e : i = dh2.length := by simp at hl2; omega
          subst e
          rw [List.getElem?_append_right (Nat.le_refl _), Nat.sub_self] at hi
          rw [List.getElem?_append_right (by rw [w2.len]; exact Nat.le_refl _), w2.len, Nat.sub_self] at hb
          simp at hi hb
          subst hi
          subst hb
          exact ck
      · rw [← w2.len, List.getElem?_append_right (Nat.le_refl _), Nat.sub_self]
        rfl
  | exc hc k =>
    intro ρ' H' c o gr w' r
    obtain ⟨g2, w2⟩ := w.cut gr w' k
    obtain ⟨C, h1, h2, h3⟩ := r
    refine p _ _ _ _ g2 w2 ⟨C, h1, h2, ?_⟩
    rcases h3 with h3 | ⟨h0, dd, xs, h4, h5, h6⟩
    · exact .inl h3
    · obtain ⟨r2, e⟩ := gr.pre
      subst e
      exact .inr ⟨h0, dd, xs, h4, h5, RepK.low h6 (by rw [w.len]; exact hc)⟩
end
section
variable {P : Program} {w : World} {K : PySem.W.Frag} {mg : Str → Option Value} {base : Heap}
theorem Has.trim {k : Nat} {x : Str} {ps : List Str} {F G : Fn} (h : Has P w K mg base k x ps F) (e : ∀ ds dh, Trim dh (F ds dh) (G ds dh)) : Has P w K mg base k x ps G :=
  h.imp fun vs H Q E ⟨ds, dh, ρ, w, r, n, p⟩ => ⟨ds, dh, ρ, w, r, n, (e ds dh).pst w p⟩
theorem Has.mono {j k : Nat} {x : Str} {ps : List Str} {F : Fn} (h : Has P w K mg base j x ps F) (l : j ≤ k) : Has P w K mg base k x ps F := by
  obtain ⟨f, fd, G, a⟩ := h
  exact ⟨f, fd, G.mono l, a⟩
/-- where a def stands -/
def Here (K : PySem.W.Frag) (mg : Str → Option Value) (x : Str) (st : Stmt) (ps : List Str) : Prop := ∃ (f : Addr) (fd : FuncData), Fun K x x st f fd ∧ mg x = some (.ref f) ∧ Binds K fd ps []
theorem has_of {x : Str} {st : Stmt} {ps : List Str} {k : Nat} {F : Fn} (h : Here K mg x st ps) (ok : ∀ f fd, Fun K x x st f fd → FnOk P w K mg base (L2.CX P w) k f fd ps (spD K mg F)) : Has P w K mg base k x ps F := by
  obtain ⟨f, fd, hF, hm, hb⟩ := h
  exact ⟨f, fd, ok f fd hF, hm, hF.kp, hb⟩
/-- a def that calls itself, to a depth -/
theorem has_rec {x : Str} {st : Stmt} {ps : List Str} {k0 : Nat} {F : Nat → Fn} (h : Here K mg x st ps) (h0 : ∀ ds dh, F 0 ds dh = .bad)
    (ok : ∀ n k, k0 ≤ k → Has P w K mg base k x ps (F n) → ∀ f fd, Fun K x x st f fd → FnOk P w K mg base (L2.CX P w) (k + 1) f fd ps (spD K mg (F (n + 1)))) : ∀ n, Has P w K mg base (k0 + n) x ps (F n)
  | 0 => by
    obtain ⟨f, fd, hF, hm, hb⟩ := h
    refine ⟨f, fd, ⟨fun vs H Q E z => ?_, fun A outer s H args us vs Q E _ _ _ _ z => ?_⟩, hm, hF.kp, hb⟩
    · obtain ⟨ds, dh, ρ, _, _, _, p⟩ := z
      rw [h0] at p
      exact p.elim
    · obtain ⟨ds, dh, ρ, _, _, _, p⟩ := z
      rw [h0] at p
      exact p.elim
  | n + 1 => has_of h (ok n (k0 + n) (Nat.le_add_right _ _) (has_rec h h0 ok n))
end
/-- x += y: ints, texts -/
def rIAddX : R2 := fun x y H Q => rI0 (fun i j => .int (i + j)) x y H Q ∨ (∃ i j, x = .str i ∧ y = .str j ∧ i.length + j.length ≤ sizeLine ∧ Q (.str (i ++ j)) H)
def oIAdd : D → D → DH → Res D
  | .int i, .int j, h => .ok (.int (i + j)) h
  | .str x, .str y, h => if x.length + y.length ≤ 16777216 then .ok (.str (x ++ y)) h else .bad
  | _, _, _ => .bad
theorem iop_addX {X : Cx} : OpR X (inplaceOp .Add) rIAddX := OpR.or iop_add iop_add_str
theorem os_iadd {K : PySem.W.Frag} {mg : Str → Option Value} : OpS K mg rIAddX oIAdd := by
  intro ρ dh H x y v u Q W τ w rx ry p
  unfold oIAdd at p
  split at p
  · cases rx; cases ry
    exact .inl ⟨_, _, rfl, rfl, same_val w (.int _) p⟩
  · cases rx; cases ry
    split at p
    · rename_i hl
      exact .inr ⟨_, _, rfl, rfl, size_lim hl, same_val w (.str _) p⟩
    · exact p.elim
  · exact p.elim
/-- return -/
def dRetN : FS := fun _ h => .rt .non h
theorem ds_retN {X : Cx} {W : WX} {pos : Pos} : PS X (.Return none pos) (rS X.K X.mg W dRetN) := PS.weak ps_retN fun _ _ _ ⟨_, _, _, w, _, p⟩ => p _ _ _ (Grow.refl _ _) w .non
end DL

/-! The data layer: equations for reckoning. -/
namespace DL
open PySem PySem.Spec L2
open PyProof.Rows hiding St

section
variable {σ : DE} {h : DH} {i : Nat} {d : D} {f g : FE} {t u : FT} {a : FA} {s b : FS}
@[simp] theorem dVar_ap : dVar i σ h = (match getS σ i with | some d => .ok d h | none => .bad) := (rfl)
@[simp] theorem dC_ap : dC d σ h = .ok d h := (rfl)
@[simp] theorem dBin_ap {op : D → D → DH → Res D} : dBin op f g σ h = (f σ h).bind fun x h1 => (g σ h1).bind fun y h2 => op x y h2 := (rfl)
@[simp] theorem dUn_ap {op : D → DH → Res D} : dUn op f σ h = (f σ h).bind op := (rfl)
@[simp] theorem dTest_ap : dTest f σ h = (f σ h).bind fun x h1 => (match x with | .bl b => .ok b h1 | _ => .bad) := (rfl)
@[simp] theorem dChain_ap {op op' : D → D → DH → Res D} {k : FE} : dChain op op' f g k σ h = (f σ h).bind fun x h1 => (g σ h1).bind fun y h2 => (op x y h2).bind fun z h3 => (match z with
  | .bl true => (k σ h3).bind fun w h4 => op' y w h4
  | .bl false => .ok (.bl false) h3
  | _ => .bad) := (rfl)
@[simp] theorem dAndT_ap : dAndT t u σ h = (t σ h).bind fun c h1 => if c = true then u σ h1 else .ok false h1 := (rfl)
@[simp] theorem dOrT_ap : dOrT t u σ h = (t σ h).bind fun c h1 => if c = true then .ok true h1 else u σ h1 := (rfl)
@[simp] theorem dNotT_ap : dNotT t σ h = (t σ h).bind fun c h1 => .ok (!c) h1 := (rfl)
@[simp] theorem dAndV_ap : dAndV f g σ h = (f σ h).bind fun x h1 => (match x with
  | .bl true => g σ h1
  | .bl false => .ok (.bl false) h1
  | _ => .bad) := (rfl)
@[simp] theorem dOrV_ap : dOrV f g σ h = (f σ h).bind fun x h1 => (match x with
  | .bl true => .ok (.bl true) h1
  | .bl false => g σ h1
  | _ => .bad) := (rfl)
@[simp] theorem dNotV_ap : dNotV f σ h = (f σ h).bind fun x h1 => (match x with | .bl b => .ok (.bl (!b)) h1 | _ => .bad) := (rfl)
@[simp] theorem dIfE_ap : dIfE t f g σ h = (t σ h).bind fun b h1 => if b = true then f σ h1 else g σ h1 := (rfl)
@[simp] theorem dTru_ap : dTru f σ h = (f σ h).bind fun x h1 => (match truD h1 x with | some b => .ok b h1 | none => .bad) := (rfl)
@[simp] theorem truD_bl {k : Bool} : truD h (.bl k) = some k := (rfl)
@[simp] theorem dNil_ap : dNil σ h = .ok [] h := (rfl)
@[simp] theorem dCons_ap : dCons f a σ h = (f σ h).bind fun x h1 => (a σ h1).bind fun xs h2 => .ok (x :: xs) h2 := (rfl)
@[simp] theorem dTup_ap : dTup a σ h = (a σ h).bind fun xs h1 => if xs.length ≤ 16777216 then .ok (.tup xs) h1 else .bad := (rfl)
@[simp] theorem dLst_ap : dLst a σ h = (a σ h).bind fun xs h1 => if xs.length ≤ 16777216 then .ok (.ref h1.length) (h1 ++ [.lst xs]) else .bad := (rfl)
@[simp] theorem dNoPart_ap : dNoPart σ h = .ok none h := (rfl)
@[simp] theorem dPart_ap : dPart f σ h = (f σ h).bind fun x h1 => (match x with | .int i => .ok (some i) h1 | _ => .bad) := (rfl)
@[simp] theorem dSl_ap {lo hi : FO} : dSl f lo hi σ h = (f σ h).bind fun x h1 => (lo σ h1).bind fun l h2 => (hi σ h2).bind fun u h3 => oSl x l u h3 := (rfl)
@[simp] theorem dCB_ap {k : List D → DH → Res D} : dCB k a σ h = (a σ h).bind k := (rfl)
@[simp] theorem dCall_ap {F : Fn} : dCall F a σ h = (a σ h).bind F := (rfl)
@[simp] theorem dIs_ap {T : TN} : dIs T f σ h = (f σ h).bind fun x h1 => (match tyD h1 x with
  | some t => match T.has t with
    | some b => .ok (.bl b) h1
    | none => .bad
  | none => .bad) := (rfl)
@[simp] theorem dBM_ap {T : String} {m : D → List D → DH → Res D} : dBM T m f a σ h = (f σ h).bind fun x h1 => if rcvD T h1 x = true then (a σ h1).bind fun xs h2 => m x xs h2 else .bad := (rfl)
@[simp] theorem dIter_ap : dIter f σ h = (f σ h).bind iterS := (rfl)
@[simp] theorem dRng_ap : dRng a σ h = (a σ h).bind rngS := (rfl)
@[simp] theorem dChars_ap : dChars f σ h = (f σ h).bind charS := (rfl)
@[simp] theorem dEnum_ap : dEnum f σ h = (f σ h).bind enumS := (rfl)
@[simp] theorem dNewD_ap : dNewD σ h = .ok (.ref h.length) (h ++ [.dic []]) := (rfl)
@[simp] theorem dLc_ap {src : FI} {gg : DG} {vs : List Nat} : dLc src gg t f vs σ h = (src σ h).bind fun s h1 => lcL s.keep gg t f (wipeD σ vs) h1.length s.ds (h1 ++ [.lst []]) := (rfl)
@[simp] theorem dYes_ap : dYes σ h = .ok true h := (rfl)
@[simp] theorem nox_ok {α : Type} {x : α} : nox (.ok x h) = .ok x h := (rfl)
/-- a statement's value, then the rest -/
def RS.of {α : Type} (σ : DE) (r : Res α) (k : α → DH → RS) : RS := match r with
  | .ok x h => k x h
  | .exc e h => .exc e σ h
  | .bad => .bad
@[simp] theorem RS.of_ok {α : Type} {x : α} {k : α → DH → RS} : RS.of σ (.ok x h) k = k x h := (rfl)
@[simp] theorem RS.of_exc {α : Type} {e : Exv} {k : α → DH → RS} : RS.of σ (.exc e h) k = .exc e σ h := (rfl)
@[simp] theorem RS.of_bad {α : Type} {k : α → DH → RS} : RS.of σ .bad k = .bad := (rfl)
theorem dThen_ap {α : Type} {f : DE → DH → Res α} {k : α → FS} : dThen f k σ h = RS.of σ (f σ h) fun x h1 => k x σ h1 := by
  unfold dThen RS.of
  cases f σ h <;> rfl
@[simp] theorem dSkip_ap : dSkip σ h = .nx σ h := (rfl)
/-- a statement, then the next -/
def RS.next (r : RS) (k : DE → DH → RS) : RS := match r with
  | .nx σ h => k σ h
  | r => r
@[simp] theorem RS.next_nx {k : DE → DH → RS} : RS.next (.nx σ h) k = k σ h := (rfl)
@[simp] theorem RS.next_rt {k : DE → DH → RS} : RS.next (.rt d h) k = .rt d h := (rfl)
@[simp] theorem RS.next_bk {k : DE → DH → RS} : RS.next (.bk σ h) k = .bk σ h := (rfl)
@[simp] theorem RS.next_ct {k : DE → DH → RS} : RS.next (.ct σ h) k = .ct σ h := (rfl)
@[simp] theorem RS.next_exc {k : DE → DH → RS} {e : Exv} : RS.next (.exc e σ h) k = .exc e σ h := (rfl)
@[simp] theorem RS.next_bad {k : DE → DH → RS} : RS.next .bad k = .bad := (rfl)
@[simp] theorem dSeq_ap : dSeq s b σ h = (s σ h).next b := by
  unfold dSeq RS.next
  cases s σ h <;> rfl
@[simp] theorem dRet_ap : dRet f σ h = RS.of σ (f σ h) fun d h1 => .rt d h1 := dThen_ap
@[simp] theorem dRetN_ap : dRetN σ h = .rt .non h := (rfl)
@[simp] theorem dDrop_ap : dDrop f σ h = RS.of σ (f σ h) fun _ h1 => .nx σ h1 := dThen_ap
@[simp] theorem dSet_ap : dSet i f σ h = RS.of σ (f σ h) fun d h1 => .nx (σ.set i (some d)) h1 := dThen_ap
@[simp] theorem dIf_ap : dIf t s b σ h = RS.of σ (t σ h) fun c h1 => if c = true then s σ h1 else b σ h1 := dThen_ap
@[simp] theorem dBreak_ap : dBreak σ h = .bk σ h := (rfl)
@[simp] theorem dCont_ap : dCont σ h = .ct σ h := (rfl)
@[simp] theorem dNever_ap : dNever σ h = .bad := (rfl)
@[simp] theorem dAug_ap {op : D → D → DH → Res D} : dAug i op f σ h = RS.of σ (dBin op (dVar i) f σ h) fun d h1 => .nx (σ.set i (some d)) h1 := dThen_ap
@[simp] theorem dUnp_ap {gg : DG} : dUnp gg f σ h = RS.of σ (f σ h) fun d h1 => (match gg d σ with
  | some σ' => .nx σ' h1
  | none => .bad) := dThen_ap
@[simp] theorem dPut_ap {k : FE} : dPut f g k σ h = RS.of σ (k σ h) fun v h1 => RS.of σ (f σ h1) fun o h2 => RS.of σ (g σ h2) fun i h3 => (match sPut o i v h3 with
  | .ok _ h' => .nx σ h'
  | _ => .bad) := by
  unfold dPut
  simp only [dThen_ap]
  all_goals rfl
@[simp] theorem dFor_ap {src : FI} {gg : DG} : dFor src gg b σ h = RS.of σ (src σ h) fun s h1 => forL s.keep gg b s.ds σ h1 := dThen_ap
@[simp] theorem gN_ap : gN i d σ = some (σ.set i (some d)) := (rfl)
@[simp] theorem gT_tup {gs : DGs} {ds : List D} : gT gs (.tup ds) σ = gs ds σ := (rfl)
@[simp] theorem gNilD_nil : gNilD [] σ = some σ := (rfl)
@[simp] theorem gConsD_cons {gg : DG} {gs : DGs} {ds : List D} : gConsD gg gs (d :: ds) σ = (match gg d σ with | some σ1 => gs ds σ1 | none => none) := (rfl)
/-- a def's end -/
def RS.fin (r : RS) : Res D := match r with
  | .nx _ h1 => .ok .non h1
  | .rt d h1 => .ok d h1
  | .exc e _ h1 => .exc e h1
  | _ => .bad
@[simp] theorem RS.fin_nx : RS.fin (.nx σ h) = .ok .non h := (rfl)
@[simp] theorem RS.fin_rt : RS.fin (.rt d h) = .ok d h := (rfl)
@[simp] theorem RS.fin_exc {e : Exv} : RS.fin (.exc e σ h) = .exc e h := (rfl)
@[simp] theorem RS.fin_bad : RS.fin .bad = .bad := (rfl)
@[simp] theorem dDef_ap {np n : Nat} {ds : List D} : dDef np n b ds h = if ds.length = np then (b (ds.map some ++ List.replicate (n - ds.length) none) h).fin else .bad := (rfl)
/-! ### operators on data -/
section
variable {x y z w : Int} {a c : Str} {p q : List D} {m n : Nat} {k : Bool} {D1 D2 : D}
@[simp] theorem oAdd_int : oAdd (.int x) (.int y) h = .ok (.int (x + y)) h := (rfl)
theorem oAdd_str (hl : a.length + c.length ≤ 16777216) : oAdd (.str a) (.str c) h = .ok (.str (a ++ c)) h := if_pos hl
theorem oAdd_tup (hl : p.length + q.length ≤ 16777216) : oAdd (.tup p) (.tup q) h = .ok (.tup (p ++ q)) h := if_pos hl
theorem oAdd_lst (e1 : h[m]? = some (.lst p)) (e2 : h[n]? = some (.lst q)) (hl : p.length + q.length ≤ 16777216) : oAdd (.ref m) (.ref n) h = .ok (.ref h.length) (h ++ [.lst (p ++ q)]) := by
  simp only [oAdd, e1, e2, if_pos hl]
@[simp] theorem oInt0_int {g : Int → Int → Int} : oInt0 g (.int x) (.int y) h = .ok (.int (g x y)) h := (rfl)
theorem cMul_l (h : -(2 ^ 64) < x ∧ x < 2 ^ 64) : cMul x y = true := decide_eq_true (.inl h)
theorem cMul_r (h : -(2 ^ 64) < y ∧ y < 2 ^ 64) : cMul x y = true := decide_eq_true (.inr h)
theorem oMul_l (hl : -18446744073709551616 < x ∧ x < 18446744073709551616) : oMul (.int x) (.int y) h = .ok (.int (x * y)) h := if_pos (cMul_l hl)
theorem oMul_r (hl : -18446744073709551616 < y ∧ y < 18446744073709551616) : oMul (.int x) (.int y) h = .ok (.int (x * y)) h := if_pos (cMul_r hl)
theorem log_small {j : Int} (h0 : 0 < j) (h : j < 2 ^ 200) : j.natAbs.log2 < 9000 := by
  have h1 : j.natAbs < 2 ^ 200 := by omega
  have h2 : j.natAbs.log2 < 200 := (Nat.log2_lt (by omega)).mpr h1
  omega
theorem oDiv_int (h0 : 0 < y) (hy : y < 1606938044258990275541962092341162602522202993782792835301376) : oDiv (.int x) (.int y) h = .ok (.int (x / y)) h :=
  if_pos (decide_eq_true ⟨h0, log_small h0 (by omega)⟩)
theorem oDiv_big (hy : 0 < y ∧ y.natAbs.log2 < 9000) : oDiv (.int x) (.int y) h = .ok (.int (x / y)) h := if_pos (decide_eq_true hy)
theorem oMod_int (h0 : 0 < y) : oMod (.int x) (.int y) h = .ok (.int (x % y)) h := if_pos (decide_eq_true h0)
theorem oShr_int (h0 : 0 ≤ y) : oShr (.int x) (.int y) h = .ok (.int (x / 2 ^ y.toNat)) h := if_pos (decide_eq_true h0)
theorem oPow_int (h0 : 0 ≤ y ∧ y ≤ 1000000 ∧ x.natAbs < 18446744073709551616) : oPow (.int x) (.int y) h = .ok (.int (x ^ y.toNat)) h := if_pos (decide_eq_true h0)
theorem oMul_lst (e : h[n]? = some (.lst p)) (hk : 0 ≤ x ∧ x ≤ 1000000) (hl : p.length * x.toNat ≤ 16777216) : oMul (.ref n) (.int x) h = .ok (.ref h.length) (h ++ [.lst (List.replicate x.toNat p).flatten]) := by
  have z : -(2 ^ 62) ≤ x ∧ x < 2 ^ 62 ∧ p.length * x.toNat ≤ 16777216 := ⟨by omega, by omega, hl⟩
  simp only [oMul, e, if_pos z]
@[simp] theorem oNeg_int : oNeg (.int x) h = .ok (.int (-x)) h := (rfl)
@[simp] theorem oOrd_int {g : Int → Int → Bool} : oOrd g (.int x) (.int y) h = .ok (.bl (g x y)) h := (rfl)
@[simp] theorem oEq_int : oEq (.int x) (.int y) h = .ok (.bl (decide (x = y))) h := (rfl)
@[simp] theorem oEq_str : oEq (.str a) (.str c) h = .ok (.bl (decide (a = c))) h := (rfl)
@[simp] theorem oEq_non : oEq .non .non h = .ok (.bl true) h := (rfl)
@[simp] theorem oNe_int : oNe (.int x) (.int y) h = .ok (.bl (!decide (x = y))) h := (rfl)
@[simp] theorem oNe_str : oNe (.str a) (.str c) h = .ok (.bl (!decide (a = c))) h := (rfl)
@[simp] theorem oNe_non : oNe .non .non h = .ok (.bl false) h := (rfl)
@[simp] theorem oEq_is : oEq (.int x) (.str c) h = .ok (.bl false) h := (rfl)
@[simp] theorem oEq_si : oEq (.str a) (.int y) h = .ok (.bl false) h := (rfl)
@[simp] theorem oNe_is : oNe (.int x) (.str c) h = .ok (.bl true) h := (rfl)
@[simp] theorem oNe_si : oNe (.str a) (.int y) h = .ok (.bl true) h := (rfl)
@[simp] theorem oEq_ns : oEq .non (.str c) h = .ok (.bl false) h := (rfl)
@[simp] theorem oEq_ni : oEq .non (.int y) h = .ok (.bl false) h := (rfl)
@[simp] theorem oEq_sn : oEq (.str a) .non h = .ok (.bl false) h := (rfl)
@[simp] theorem oEq_in : oEq (.int x) .non h = .ok (.bl false) h := (rfl)
@[simp] theorem oEq_bl {j : Bool} : oEq (.bl k) (.bl j) h = .ok (.bl (decide (k = j))) h := (rfl)
@[simp] theorem oIsN_non : oIsN .non .non h = .ok (.bl true) h := (rfl)
@[simp] theorem oIsN_int : oIsN (.int x) .non h = .ok (.bl false) h := (rfl)
@[simp] theorem oIsN_str : oIsN (.str a) .non h = .ok (.bl false) h := (rfl)
@[simp] theorem oIsN_bl : oIsN (.bl k) .non h = .ok (.bl false) h := (rfl)
@[simp] theorem oIsN_tup : oIsN (.tup p) .non h = .ok (.bl false) h := (rfl)
@[simp] theorem oIsN_rol : oIsN (.rol p) .non h = .ok (.bl false) h := (rfl)
@[simp] theorem oIsN_ref : oIsN (.ref n) .non h = .ok (.bl false) h := (rfl)
@[simp] theorem oIsB_bl {j : Bool} : oIsN (.bl k) (.bl j) h = .ok (.bl (decide (k = j))) h := (rfl)
@[simp] theorem oIsB_non {j : Bool} : oIsN .non (.bl j) h = .ok (.bl false) h := (rfl)
@[simp] theorem oIsB_int {j : Bool} : oIsN (.int x) (.bl j) h = .ok (.bl false) h := (rfl)
@[simp] theorem oIsB_str {j : Bool} : oIsN (.str a) (.bl j) h = .ok (.bl false) h := (rfl)
@[simp] theorem oIsB_tup {j : Bool} : oIsN (.tup p) (.bl j) h = .ok (.bl false) h := (rfl)
@[simp] theorem oIsB_rol {j : Bool} : oIsN (.rol p) (.bl j) h = .ok (.bl false) h := (rfl)
@[simp] theorem oIsB_ref {j : Bool} : oIsN (.ref n) (.bl j) h = .ok (.bl false) h := (rfl)
@[simp] theorem oNotN_non : oNotN .non .non h = .ok (.bl false) h := (rfl)
@[simp] theorem oNotN_int : oNotN (.int x) .non h = .ok (.bl true) h := (rfl)
@[simp] theorem oNotN_str : oNotN (.str a) .non h = .ok (.bl true) h := (rfl)
@[simp] theorem oNotN_bl : oNotN (.bl k) .non h = .ok (.bl true) h := (rfl)
@[simp] theorem oNotN_tup : oNotN (.tup p) .non h = .ok (.bl true) h := (rfl)
@[simp] theorem oNotN_rol : oNotN (.rol p) .non h = .ok (.bl true) h := (rfl)
@[simp] theorem oNotN_ref : oNotN (.ref n) .non h = .ok (.bl true) h := (rfl)
theorem oIx_tup (e : L2.atI p x = some d) : oIx (.tup p) (.int x) h = .ok d h := by simp only [oIx, e]
theorem oIx_rol (e : L2.atI p x = some d) : oIx (.rol p) (.int x) h = .ok d h := by simp only [oIx, e]
theorem oIx_lst (e1 : h[n]? = some (.lst p)) (e : L2.atI p x = some d) : oIx (.ref n) (.int x) h = .ok d h := by simp only [oIx, e1, e]
@[simp] theorem bInt_int : bInt [.int x] h = .ok (.int x) h := (rfl)
@[simp] theorem bInt_bl : bInt [.bl k] h = .ok (.int (if k then 1 else 0)) h := (rfl)
@[simp] theorem bLen_tup : bLen [.tup p] h = .ok (.int p.length) h := (rfl)
@[simp] theorem bLen_rol : bLen [.rol p] h = .ok (.int p.length) h := (rfl)
theorem bLen_lst (e : h[n]? = some (.lst p)) : bLen [.ref n] h = .ok (.int p.length) h := by simp only [bLen, e]
theorem bLen_str (hl : a.length ≤ 16777216) : bLen [.str a] h = .ok (.int a.length) h := if_pos hl
@[simp] theorem bList_tup : bList [.tup p] h = .ok (.ref h.length) (h ++ [.lst p]) := (rfl)
@[simp] theorem bList_rol : bList [.rol p] h = .ok (.ref h.length) (h ++ [.lst p]) := (rfl)
theorem bList_lst (e : h[n]? = some (.lst p)) : bList [.ref n] h = .ok (.ref h.length) (h ++ [.lst p]) := by simp only [bList, e]
@[simp] theorem bTuple_tup : bTuple [.tup p] h = .ok (.tup p) h := (rfl)
@[simp] theorem bTuple_rol : bTuple [.rol p] h = .ok (.tup p) h := (rfl)
theorem bTuple_lst (e : h[n]? = some (.lst p)) : bTuple [.ref n] h = .ok (.tup p) h := by simp only [bTuple, e]
@[simp] theorem bStrX_str : bStrX [.str a] h = .ok (.str a) h := (rfl)
@[simp] theorem bStrX_non : bStrX [.non] h = .ok (.str "None") h := (rfl)
theorem bStrX_int (hl : x.natAbs.log2 < 1920) : bStrX [.int x] h = .ok (.str (toString x)) h := if_pos hl
@[simp] theorem oSl_tup {lo hi : Option Int} : oSl (.tup p) lo hi h = .ok (.tup (cutD p lo hi)) h := (rfl)
@[simp] theorem oSl_rol {lo hi : Option Int} : oSl (.rol p) lo hi h = .ok (.ref h.length) (h ++ [.lst (cutD p lo hi)]) := (rfl)
theorem oSl_lst {lo hi : Option Int} (e : h[n]? = some (.lst p)) : oSl (.ref n) lo hi h = .ok (.ref h.length) (h ++ [.lst (cutD p lo hi)]) := by simp only [oSl, e]
theorem mAppend_lst (e : h[n]? = some (.lst p)) (hl : p.length < 16777216) : mAppend (.ref n) [d] h = .ok .non (h.set n (.lst (p ++ [d]))) := by simp only [mAppend, e, if_pos hl]
theorem rcv_lst (e : h[n]? = some (.lst p)) : rcvD "list" h (.ref n) = true := by simp only [rcvD, e]; rfl
@[simp] theorem rcv_str : rcvD "str" h (.str a) = true := (rfl)
@[simp] theorem tyD_non : tyD h .non = some .non := (rfl)
@[simp] theorem tyD_bl : tyD h (.bl k) = some .bl := (rfl)
@[simp] theorem tyD_int : tyD h (.int x) = some .int := (rfl)
@[simp] theorem tyD_str : tyD h (.str a) = some .str := (rfl)
@[simp] theorem tyD_tup : tyD h (.tup p) = some .tup := (rfl)
@[simp] theorem tyD_rol : tyD h (.rol p) = some .lst := (rfl)
theorem tyD_lst (e : h[n]? = some (.lst p)) : tyD h (.ref n) = some .lst := by simp only [tyD, e]
theorem rngS_one (hl : 0 ≤ x ∧ x ≤ 1000000000) : rngS [.int x] h = .ok ⟨rngD 0 x.toNat, fun _ => True⟩ h := if_pos ⟨by omega, by omega⟩
theorem rngS_two (hl : -1000000000 ≤ x ∧ x ≤ 1000000000) (hr : -1000000000 ≤ y ∧ y ≤ 1000000000) : rngS [.int x, .int y] h = .ok ⟨rngD x (y - x).toNat, fun _ => True⟩ h := if_pos ⟨⟨by omega, by omega⟩, ⟨by omega, by omega⟩⟩
@[simp] theorem charS_str : charS (.str a) h = .ok ⟨a.cps.toList.map fun c => D.str ⟨#[c]⟩, fun _ => True⟩ h := (rfl)
@[simp] theorem has_ii : TN.has .int .int = some true := (rfl)
@[simp] theorem has_ib : TN.has .int .bl = some true := (rfl)
@[simp] theorem has_is : TN.has .int .str = some false := (rfl)
@[simp] theorem has_it : TN.has .int .tup = some false := (rfl)
@[simp] theorem has_il : TN.has .int .lst = some false := (rfl)
@[simp] theorem has_in : TN.has .int .non = some false := (rfl)
@[simp] theorem has_id : TN.has .int .dic = some false := (rfl)
@[simp] theorem has_bb : TN.has .bl .bl = some true := (rfl)
@[simp] theorem has_bi : TN.has .bl .int = some false := (rfl)
@[simp] theorem has_bs : TN.has .bl .str = some false := (rfl)
@[simp] theorem has_bt : TN.has .bl .tup = some false := (rfl)
@[simp] theorem has_bl : TN.has .bl .lst = some false := (rfl)
@[simp] theorem has_bn : TN.has .bl .non = some false := (rfl)
@[simp] theorem has_ss : TN.has .str .str = some true := (rfl)
@[simp] theorem has_si : TN.has .str .int = some false := (rfl)
@[simp] theorem has_sb : TN.has .str .bl = some false := (rfl)
@[simp] theorem has_st : TN.has .str .tup = some false := (rfl)
@[simp] theorem has_sl : TN.has .str .lst = some false := (rfl)
@[simp] theorem has_sn : TN.has .str .non = some false := (rfl)
@[simp] theorem has_tt : TN.has .tup .tup = some true := (rfl)
@[simp] theorem has_ti : TN.has .tup .int = some false := (rfl)
@[simp] theorem has_tb : TN.has .tup .bl = some false := (rfl)
@[simp] theorem has_ts : TN.has .tup .str = some false := (rfl)
@[simp] theorem has_tl : TN.has .tup .lst = some false := (rfl)
@[simp] theorem has_tn : TN.has .tup .non = some false := (rfl)
@[simp] theorem has_ll : TN.has .lst .lst = some true := (rfl)
@[simp] theorem has_li : TN.has .lst .int = some false := (rfl)
@[simp] theorem has_lb : TN.has .lst .bl = some false := (rfl)
@[simp] theorem has_ls : TN.has .lst .str = some false := (rfl)
@[simp] theorem has_lt : TN.has .lst .tup = some false := (rfl)
@[simp] theorem has_ln : TN.has .lst .non = some false := (rfl)
end
/-! ### what is walked -/
@[simp] theorem iterS_tup {ds : List D} : iterS (.tup ds) h = .ok ⟨ds, fun _ => True⟩ h := by
  unfold iterS
  simp only [itemsD]
@[simp] theorem iterS_rol {ds : List D} : iterS (.rol ds) h = .ok ⟨ds, fun _ => True⟩ h := by
  unfold iterS
  simp only [itemsD]
theorem iterS_ref {n : Nat} {ds : List D} (e : h[n]? = some (.lst ds)) : iterS (.ref n) h = .ok ⟨ds, fun h' => h'[n]? = some (.lst ds)⟩ h := by
  unfold iterS
  simp only [itemsD, e]
  congr
  funext h'
  cases e2 : h'[n]? with
  | none => simp
  | some c => cases c <;> simp
theorem enumS_ref {n : Nat} {ds : List D} (e : h[n]? = some (.lst ds)) : enumS (.ref n) h = .ok ⟨pairs ds, fun h' => h'[n]? = some (.lst ds)⟩ h := by
  unfold enumS
  simp only [lstD, e]
  congr
  funext h'
  cases e2 : h'[n]? with
  | none => simp
  | some c => cases c <;> simp
@[simp] theorem enumS_rol {ds : List D} : enumS (.rol ds) h = .ok ⟨pairs ds, fun _ => True⟩ h := by
  unfold enumS
  simp only [lstD]
theorem forL_nil {keep : DH → Prop} {gg : DG} (k : keep h) : forL keep gg b [] σ h = .nx σ h := by
  unfold forL
  rw [if_pos k]
/-- one turn -/
def RS.turn (r : RS) (k : DE → DH → RS) : RS := match r with
  | .nx σ h => k σ h
  | .ct σ h => k σ h
  | .bk σ h => .nx σ h
  | x => x
@[simp] theorem RS.turn_nx {k : DE → DH → RS} : RS.turn (.nx σ h) k = k σ h := (rfl)
@[simp] theorem RS.turn_ct {k : DE → DH → RS} : RS.turn (.ct σ h) k = k σ h := (rfl)
@[simp] theorem RS.turn_bk {k : DE → DH → RS} : RS.turn (.bk σ h) k = .nx σ h := (rfl)
@[simp] theorem RS.turn_rt {k : DE → DH → RS} : RS.turn (.rt d h) k = .rt d h := (rfl)
@[simp] theorem RS.turn_exc {k : DE → DH → RS} {e : Exv} : RS.turn (.exc e σ h) k = .exc e σ h := (rfl)
theorem forL_cons {keep : DH → Prop} {gg : DG} {ds : List D} {σ1 : DE} (k : keep h) (hg : gg d σ = some σ1) : forL keep gg b (d :: ds) σ h = (b σ1 h).turn (forL keep gg b ds) := by
  rw [forL]
  simp only [if_pos k, hg, RS.turn]
  all_goals (cases b σ1 h <;> rfl)
theorem lcL_nil {keep : DH → Prop} {gg : DG} {n : Nat} (k : keep h) : lcL keep gg t f σ n [] h = .ok (.ref n) h := by
  unfold lcL
  rw [if_pos k]
theorem lcL_cons {keep : DH → Prop} {gg : DG} {n : Nat} {ds : List D} {σ1 : DE} (k : keep h) (hg : gg d σ = some σ1) : lcL keep gg t f σ n (d :: ds) h =
    (nox (t σ1 h)).bind fun b h1 => if b = true then (nox (f σ1 h1)).bind fun y h2 => (match h2[n]? with
        | some (.lst acc) => if acc.length < 16777216 then lcL keep gg t f σ n ds (h2.set n (.lst (acc ++ [y]))) else .bad
        | _ => .bad) else lcL keep gg t f σ n ds h1 := by
  rw [lcL, if_pos k, hg]
  all_goals rfl
/-- one turn of a comprehension without a test, the new item y; garbage g -/
theorem lcL_turn {keep : DH → Prop} {gg : DG} {n : Nat} {ds acc : List D} {σ1 : DE} {y : D} {h2 : DH} (k : keep h) (hg : gg d σ = some σ1) (hf : f σ1 h = .ok y h2) (hn : h2[n]? = some (.lst acc)) (hl : acc.length < 16777216) :
    lcL keep gg dYes f σ n (d :: ds) h = lcL keep gg dYes f σ n ds (h2.set n (.lst (acc ++ [y]))) := by
  rw [lcL_cons k hg]
  simp only [dYes_ap, nox_ok, Res.bind, if_pos, hf, hn, if_pos hl]
end
/-! ### heaps -/
section
variable {h g : DH} {c c' : Cell} {n : Nat}
@[simp] theorem at_new : (h ++ [c])[h.length]? = some c := by rw [List.getElem?_append_right (Nat.le_refl _), Nat.sub_self]; rfl
@[simp] theorem set_new : (h ++ [c]).set h.length c' = h ++ [c'] := by
  rw [List.set_append_right _ _ (Nat.le_refl _), Nat.sub_self]
  rfl
theorem at_old (e : h[n]? = some c) : (h ++ g)[n]? = some c := by
  rw [List.getElem?_append_left (List.getElem?_eq_some_iff.mp e).1]
  exact e
theorem at_old1 (e : h[n]? = some c) : (h ++ [c'])[n]? = some c := at_old e
theorem lt_of_at (e : h[n]? = some c) : n < h.length := (List.getElem?_eq_some_iff.mp e).1
end
/-- a comprehension over items by a function that leaves the heap: fs d is the item's value -/
theorem lc_pure {keep : DH → Prop} {gg : DG} {e : FE} {σ : DE} {h : DH} (F : D → D) : ∀ (ds : List D) (acc : List D), (∀ h', (∃ a, h' = h ++ [.lst a]) → keep h') → acc.length + ds.length < 16777216 →
    (∀ d ∈ ds, ∃ σ1, gg d σ = some σ1 ∧ ∀ h', e σ1 h' = .ok (F d) h') → lcL keep gg dYes e σ h.length ds (h ++ [.lst acc]) = .ok (.ref h.length) (h ++ [.lst (acc ++ ds.map F)])
  | [], acc, hk, hl, he => by rw [lcL_nil (hk _ ⟨acc, rfl⟩), List.map_nil, List.append_nil]
  | d :: ds, acc, hk, hl, he => by
    obtain ⟨σ1, h1, h2⟩ := he d (List.mem_cons_self ..)
    rw [List.length_cons] at hl
    rw [lcL_turn (hk _ ⟨acc, rfl⟩) h1 (h2 _) at_new (by omega), set_new, lc_pure F ds (acc ++ [F d]) hk (by rw [List.length_append, List.length_singleton]; omega) (fun x hx => he x (List.mem_cons_of_mem _ hx)), List.map_cons, List.append_assoc]
    rfl
/-- a comprehension whose items leave things behind -/
theorem lc_grow {keep : DH → Prop} {gg : DG} {e : FE} {σ : DE} {h0 : DH} (F : D → D) (hk : ∀ t, keep (h0 ++ t)) : ∀ (ds : List D), (∀ d ∈ ds, ∃ σ1, gg d σ = some σ1 ∧ ∀ t, ∃ g, e σ1 (h0 ++ t) = .ok (F d) (h0 ++ t ++ g)) →
    ∀ (acc : List D) (g : DH), acc.length + ds.length < 16777216 → ∃ g', lcL keep gg dYes e σ h0.length ds (h0 ++ Cell.lst acc :: g) = .ok (.ref h0.length) (h0 ++ Cell.lst (acc ++ ds.map F) :: g')
  | [], _, acc, g, _ => ⟨g, by rw [lcL_nil (hk _), List.map_nil, List.append_nil]⟩
  | d :: ds, he, acc, g, hl => by
    obtain ⟨σ1, h1, h2⟩ := he d (List.mem_cons_self ..)
    obtain ⟨g2, h3⟩ := h2 (Cell.lst acc :: g)
    rw [List.length_cons] at hl
    have at0 : (h0 ++ Cell.lst acc :: g ++ g2)[h0.length]? = some (Cell.lst acc) := by simp
    obtain ⟨g', e'⟩ := lc_grow F hk ds (fun x hx => he x (List.mem_cons_of_mem _ hx)) (acc ++ [F d]) (g ++ g2) (by rw [List.length_append, List.length_singleton]; omega)
    refine ⟨g', ?_⟩
    rw [lcL_turn (hk _) h1 h3 at0 (by omega)]
    have s0 : (h0 ++ Cell.lst acc :: g ++ g2).set h0.length (Cell.lst (acc ++ [F d])) = h0 ++ Cell.lst (acc ++ [F d]) :: (g ++ g2) := by simp
    rw [s0, e', List.map_cons, List.append_assoc]
    rfl
theorem rng0 (m : Nat) : rngD 0 m = (List.range' 0 m).map fun (i : Nat) => D.int ((i : Nat) : Int) := by
  unfold rngD
  rw [List.range_eq_range']
  simp
/-! ### texts -/
theorem str_ext {a b : Str} (h : a.cps.toList = b.cps.toList) : a = b := by
  obtain ⟨⟨x⟩⟩ := a
  obtain ⟨⟨y⟩⟩ := b
  cases h
  rfl
@[simp] theorem cps_append (a b : Str) : (a ++ b).cps.toList = a.cps.toList ++ b.cps.toList := Array.toList_append
theorem str_assoc (a b c : Str) : a ++ b ++ c = a ++ (b ++ c) := str_ext (by simp)
theorem len_cps (a : Str) : a.length = a.cps.toList.length := Array.length_toList.symm
@[simp] theorem len_append (a b : Str) : (a ++ b).length = a.length + b.length := by rw [len_cps, len_cps, len_cps, cps_append, List.length_append]
theorem strsD_map : ∀ l : List Str, strsD (l.map D.str) = some l
  | [] => rfl
  | a :: l => by rw [List.map_cons, strsD, strsD_map l]; rfl
theorem mJoin_lst {h : DH} {n : Nat} {a : Str} {l : List Str} (e : h[n]? = some (.lst (l.map D.str))) (hl : (l.map (·.length)).sum + l.length * a.length ≤ 16777216) : mJoin (.str a) [.ref n] h = .ok (.str (Str.join a l)) h := by
  simp only [mJoin, itemsD, e, strsD_map, if_pos hl, TL.join_eq]
theorem mSplit_str {h : DH} {a b : Str} (h1 : b.length ≠ 0) (h2 : a.length + 2 ≤ 16777216) : mSplit (.str a) [.str b] h = .ok (.ref h.length) (h ++ [.lst ((Txt.split a b).map D.str)]) := by
  have z : (b.length == 0) = false ∧ a.length + 2 ≤ 16777216 := ⟨by simpa using h1, h2⟩
  simp only [mSplit, if_pos z]
section
variable {h : DH} {p : List D} {x : Int} {d : D}
/-- an item that may lack -/
def getR (o : Option D) (h : DH) : Res D := match o with
  | some d => .ok d h
  | none => .bad
@[simp] theorem getR_some : getR (some d) h = .ok d h := (rfl)
@[simp] theorem getR_none : getR none h = .bad := (rfl)
theorem oIx_at {n : Nat} (e : h[n]? = some (Cell.lst p)) : oIx (.ref n) (.int x) h = getR (L2.atI p x) h := by
  simp only [oIx, e]
  rfl
theorem oIx_new : oIx (.ref h.length) (.int x) (h ++ [Cell.lst p]) = getR (L2.atI p x) (h ++ [Cell.lst p]) := oIx_at at_new
theorem oIx_tupX : oIx (.tup p) (.int x) h = getR (L2.atI p x) h := (rfl)
theorem oIx_rolX : oIx (.rol p) (.int x) h = getR (L2.atI p x) h := (rfl)
/-- an index as written -/
theorem atI_0 {a : D} {l : List D} : L2.atI (a :: l) 0 = some a := L2.atI_nat (j := 0) rfl
theorem atI_1 {a b : D} {l : List D} : L2.atI (a :: b :: l) 1 = some b := L2.atI_nat (j := 1) rfl
theorem atI_2 {a b c : D} {l : List D} : L2.atI (a :: b :: c :: l) 2 = some c := L2.atI_nat (j := 2) rfl
theorem atI_3 {a b c e : D} {l : List D} : L2.atI (a :: b :: c :: e :: l) 3 = some e := L2.atI_nat (j := 3) rfl
theorem atI_4 {a b c e f : D} {l : List D} : L2.atI (a :: b :: c :: e :: f :: l) 4 = some f := L2.atI_nat (j := 4) rfl
theorem atI_5 {a b c e f g : D} {l : List D} : L2.atI (a :: b :: c :: e :: f :: g :: l) 5 = some g := L2.atI_nat (j := 5) rfl
theorem atI_n {l : List D} {n : Nat} (e : l[n]? = some d) : L2.atI l (n : Int) = some d := L2.atI_nat e
theorem atI_neg1 {l : List D} : L2.atI (l ++ [d]) (-1) = some d := L2.atI_last l d
end
@[simp] theorem ofString_inj {a b : String} : Str.ofString a = Str.ofString b ↔ a = b := by
  refine ⟨fun h => ?_, fun h => by rw [h]⟩
  rw [Str.ofString_eq_toList, Str.ofString_eq_toList] at h
  have h1 : a.toList.map Char.toNat = b.toList.map Char.toNat := by
    have := congrArg (fun z : Str => z.cps.toList) h
    simpa using this
  have inj : ∀ l m : List Char, l.map Char.toNat = m.map Char.toNat → l = m := fun l => by
    induction l with
    | nil => intro m h; cases m with
      | nil => rfl
      | cons => cases h
    | cons x l ih => intro m h; cases m with
      | nil => cases h
      | cons y m =>
        rw [List.map_cons, List.map_cons] at h
        injection h with h2 h3
        rw [ih m h3, Char.toNat_inj.mp h2]
  have h3 := inj _ _ h1
  exact String.toList_inj.mp h3
end DL

/-! The data layer: loops by an invariant; heaps with new cells at the end. -/
namespace DL
open PySem PySem.Spec L2
open PyProof.Rows hiding St
section
variable {keep : DH → Prop} {gg : DG} {b : FS}
/-- a for over data, by what holds before turn i -/
theorem for_at {ds : List D} (I : Nat → DE → DH → Prop) (P : RS → Prop)
    (h0 : ∀ σ h, I ds.length σ h → keep h ∧ P (.nx σ h))
    (hs : ∀ i d σ h, ds[i]? = some d → I i σ h → keep h ∧ ∃ σ1, gg d σ = some σ1 ∧
      ((∃ σ' h', (b σ1 h = .nx σ' h' ∨ b σ1 h = .ct σ' h') ∧ I (i + 1) σ' h') ∨ (∃ v h', b σ1 h = .rt v h' ∧ P (.rt v h')) ∨ (∃ σ' h', b σ1 h = .bk σ' h' ∧ P (.nx σ' h')))) :
    ∀ σ h, I 0 σ h → P (forL keep gg b ds σ h) := by
  suffices key : ∀ (r : List D) (i : Nat) (σ : DE) (h : DH), ds.drop i = r → i ≤ ds.length → I i σ h → P (forL keep gg b r σ h) from
    fun σ h hi => key ds 0 σ h rfl (Nat.zero_le _) hi
  intro r
  induction r with
  | nil =>
    intro i σ h e le hi
    have : i = ds.length := by
      have := congrArg List.length e
      rw [List.length_drop, List.length_nil] at this
      omega
    subst this
    obtain ⟨k, p⟩ := h0 σ h hi
    rw [forL_nil k]
    exact p
  | cons d r ih =>
    intro i σ h e le hi
    have hd : ds[i]? = some d := by
      have := congrArg (·[0]?) e
      simpa using this
    have hr : ds.drop (i + 1) = r := by
      rw [← List.tail_drop, e]
      rfl
    have lt : i < ds.length := (List.getElem?_eq_some_iff.mp hd).1
    obtain ⟨k, σ1, hg, o⟩ := hs i d σ h hd hi
    rw [forL_cons k hg]
    rcases o with ⟨σ', h', e1, hi'⟩ | ⟨v, h', e1, p⟩ | ⟨σ', h', e1, p⟩
    · rcases e1 with e1 | e1
      · rw [e1, RS.turn_nx]
        exact ih (i + 1) σ' h' hr lt hi'
      · rw [e1, RS.turn_ct]
        exact ih (i + 1) σ' h' hr lt hi'
    · rw [e1, RS.turn_rt]
      exact p
    · rw [e1, RS.turn_bk]
      exact p
/-- a for that always goes on to its end -/
theorem for_run {ds : List D} (I : Nat → DE → DH → Prop)
    (hk : ∀ i σ h, I i σ h → keep h)
    (hs : ∀ i d σ h, ds[i]? = some d → I i σ h → ∃ σ1, gg d σ = some σ1 ∧ ∃ σ' h', (b σ1 h = .nx σ' h' ∨ b σ1 h = .ct σ' h') ∧ I (i + 1) σ' h') :
    ∀ σ h, I 0 σ h → ∃ σ' h', forL keep gg b ds σ h = .nx σ' h' ∧ I ds.length σ' h' :=
  for_at I (fun r => ∃ σ' h', r = .nx σ' h' ∧ I ds.length σ' h') (fun σ h hi => ⟨hk _ _ _ hi, _, _, rfl, hi⟩) fun i d σ h e hi => by
    obtain ⟨σ1, hg, o⟩ := hs i d σ h e hi
    exact ⟨hk _ _ _ hi, σ1, hg, .inl o⟩
/-- the same for a comprehension: what its list holds after each item -/
theorem lc_run {e : FE} {σ : DE} {h0 : DH} {ds : List D} (F : Nat → D) (hk : ∀ t, keep (h0 ++ t)) (hl : ds.length < 16777216)
    (he : ∀ i d, ds[i]? = some d → ∃ σ1, gg d σ = some σ1 ∧ ∀ t, ∃ g, e σ1 (h0 ++ t) = .ok (F i) (h0 ++ t ++ g)) :
    ∃ g', lcL keep gg dYes e σ h0.length ds (h0 ++ [Cell.lst []]) = .ok (.ref h0.length) (h0 ++ Cell.lst ((List.range ds.length).map F) :: g') := by
  suffices key : ∀ (r : List D) (i : Nat) (g : DH), ds.drop i = r → i ≤ ds.length →
      ∃ g', lcL keep gg dYes e σ h0.length r (h0 ++ Cell.lst ((List.range i).map F) :: g) = .ok (.ref h0.length) (h0 ++ Cell.lst ((List.range ds.length).map F) :: g') from
    key ds 0 [] rfl (Nat.zero_le _)
  intro r
  induction r with
  | nil =>
    intro i g e1 le
    have : i = ds.length := by
      have := congrArg List.length e1
      rw [List.length_drop, List.length_nil] at this
      omega
    subst this
    exact ⟨g, by rw [lcL_nil (hk _)]⟩
  | cons d r ih =>
    intro i g e1 le
    have hd : ds[i]? = some d := by
      have := congrArg (·[0]?) e1
      simpa using this
    have hr : ds.drop (i + 1) = r := by
      rw [← List.tail_drop, e1]
      rfl
    have lt : i < ds.length := (List.getElem?_eq_some_iff.mp hd).1
    obtain ⟨σ1, h1, h2⟩ := he i d hd
    obtain ⟨g2, h3⟩ := h2 (Cell.lst ((List.range i).map F) :: g)
    have at0 : (h0 ++ Cell.lst ((List.range i).map F) :: g ++ g2)[h0.length]? = some (Cell.lst ((List.range i).map F)) := by simp
    obtain ⟨g', e'⟩ := ih (i + 1) (g ++ g2) hr lt
    refine ⟨g', ?_⟩
    rw [lcL_turn (hk _) h1 h3 at0 (by rw [List.length_map, List.length_range]; omega)]
    have s0 : (h0 ++ Cell.lst ((List.range i).map F) :: g ++ g2).set h0.length (Cell.lst ((List.range i).map F ++ [F i])) = h0 ++ Cell.lst ((List.range (i + 1)).map F) :: (g ++ g2) := by
      simp [List.range_succ]
    rw [s0, e']
end
theorem range_map_get {α : Type} {l : List α} {f : α → D} {F : Nat → D} (h : ∀ i a, l[i]? = some a → F i = f a) : (List.range l.length).map F = l.map f := by
  refine List.ext_getElem? fun i => ?_
  rw [List.getElem?_map, List.getElem?_map]
  rcases Nat.lt_or_ge i l.length with lt | ge
  · rw [List.getElem?_range lt, List.getElem?_eq_getElem lt]
    exact congrArg some (h i _ (List.getElem?_eq_getElem lt))
  · rw [List.getElem?_eq_none (by rw [List.length_range]; omega), List.getElem?_eq_none ge]
    rfl
theorem take_next {α : Type} {l : List α} {i : Nat} {a : α} (h : l[i]? = some a) : l.take (i + 1) = l.take i ++ [a] := by
  rw [List.take_add_one, h]
  rfl
theorem pairs_at {ds : List D} {i : Nat} : (pairs ds)[i]? = ds[i]?.map fun x => D.tup [.int (i : Nat), x] := by
  unfold pairs
  rw [List.getElem?_map, List.getElem?_zipIdx]
  cases ds[i]? <;> simp
theorem map_at {α : Type} {l : List α} {f : α → D} {i : Nat} {d : D} (h : (l.map f)[i]? = some d) : ∃ a, l[i]? = some a ∧ d = f a := by
  rw [List.getElem?_map] at h
  obtain ⟨a, e, rfl⟩ := Option.map_eq_some_iff.mp h
  exact ⟨a, e, rfl⟩
/-! ### heaps with new cells at the end -/
section
variable {h l : DH} {c : Cell} {k n : Nat} {p : List D} {d : D}
theorem hp_0 : (h ++ c :: l)[h.length]? = some c := by simp
theorem hp_k : (h ++ l)[h.length + k]? = l[k]? := by rw [List.getElem?_append_right (by omega)]; congr 1; omega
theorem hs_0 : (h ++ c :: l).set h.length d' = h ++ d' :: l := by simp
theorem hs_k : (h ++ l).set (h.length + k) c = h ++ l.set k c := by rw [List.set_append_right _ _ (by omega)]; congr 2; omega
theorem old_at (e : h[n]? = some c) : ∀ g, (h ++ g)[n]? = some c := fun _ => at_old e
theorem old_set (e : n < h.length) : ∀ g, (h ++ g).set n c = h.set n c ++ g := fun _ => List.set_append_left _ _ e
/-- a list's cell, by case -/
def lsD (o : Option Cell) : Option (List D) := match o with
  | some (.lst p) => some p
  | _ => none
@[simp] theorem lsD_lst : lsD (some (.lst p)) = some p := (rfl)
def onL {α : Type} (o : Option (List D)) (k : List D → Res α) : Res α := match o with
  | some p => k p
  | none => .bad
@[simp] theorem onL_some {α : Type} {k : List D → Res α} : onL (some p) k = k p := (rfl)
theorem rcv_at : rcvD "list" h (.ref n) = (match h[n]? with
    | some (.lst _) => true
    | some (.dic _) => false
    | _ => false) := by
  simp only [rcvD]
  rcases h[n]? with _ | ⟨_ | _ | _ | _⟩ <;> rfl
/-- an index into what is no list -/
def ixO (n : Nat) (x : Int) (h : DH) : Res D := oIx (.ref n) (.int x) h
theorem ix_at {x : Int} : oIx (.ref n) (.int x) h = (match h[n]? with
    | some (.lst p) => getR (L2.atI p x) h
    | _ => ixO n x h) := by
  rcases e : h[n]? with _ | ⟨_ | _ | _ | _⟩ <;> first | rfl | exact oIx_at e
theorem app_at : mAppend (.ref n) [d] h = (match h[n]? with
    | some (.lst p) => if p.length < 16777216 then .ok .non (h.set n (.lst (p ++ [d]))) else .bad
    | _ => .bad) := (rfl)
theorem len_at : bLen [.ref n] h = (match h[n]? with
    | some (.lst p) => .ok (.int p.length) h
    | _ => .bad) := (rfl)
theorem list_at : bList [.ref n] h = (match h[n]? with
    | some (.lst p) => .ok (.ref h.length) (h ++ [.lst p])
    | _ => .bad) := (rfl)
theorem tuple_at : bTuple [.ref n] h = (match h[n]? with
    | some (.lst p) => .ok (.tup p) h
    | _ => .bad) := (rfl)
theorem sl_at {lo hi : Option Int} : oSl (.ref n) lo hi h = (match h[n]? with
    | some (.lst p) => .ok (.ref h.length) (h ++ [.lst (cutD p lo hi)])
    | _ => .bad) := (rfl)
theorem add_at {m : Nat} : oAdd (.ref m) (.ref n) h = (match h[m]?, h[n]? with
    | some (.lst a), some (.lst b) => if a.length + b.length ≤ 16777216 then .ok (.ref h.length) (h ++ [.lst (a ++ b)]) else .bad
    | _, _ => .bad) := (rfl)
theorem iter_at : iterS (.ref n) h = (match h[n]? with
    | some (.lst p) => .ok ⟨p, fun h' => h'[n]? = some (.lst p)⟩ h
    | _ => .bad) := by
  rcases e : h[n]? with _ | ⟨_ | _ | _ | _⟩ <;> first | exact iterS_ref e | simp only [iterS, itemsD, e]
end
end DL

/-! The data layer: list(reversed(a list)). -/
namespace RT
open PySem PySem.Spec PyProof.Rows L2
section
variable {prog : Program} {w : World} {A : Around} {E : Value → Shared → Prop} {s : Shared}
theorem init_list_rev {R : Result → Shared → Prop} {it l : Addr} {items : Array Value} (hh : A.handled = none) (hit : s.heap.IsRevIter it l ((items.size : Int) - 1)) (hl : s.heap.IsList l items) (hne : l ≠ it) (hn : items.size ≤ sizeLine) (S : Addr) (hS : s.heap.get? S = some { cls := .type "list", data := .seq #[] })
    (hSi : S ≠ it) (hSl : S ≠ l)
    (hR : ∀ h' tk acc' c', (∀ b o, b ≠ S → b ≠ it → s.heap.get? b = some o → h'.get? b = some o) → h'.get? S = some { cls := .type "list", dict := none, data := .seq acc' c', slots := #[] } →
      ItemsOf (fun i v => items[items.size - 1 - i]? = some v) acc' items.size → R (.ok (.ret .none)) { s with heap := h', toks := tk }) :
    wpAny (model prog w) A.in1 (Builtin.«list.__init__» ⟨[.ref S, .ref it], []⟩)
      (fun fin s' => match fin with | .done f => R (.ok f) s' | .again c' => c'.quiet = true ∧ codeAny (model prog w) A c' R s') (fun e s' => R (.error e) s') s := by
  show wpAny _ _ (do let old ← Builtin.List.listItems (.ref S); Builtin.List.listUpdate (.ref S) (fun _ => #[]); letGo old.toList.reverse; Builtin.List.listExtendWith (.ref S) (.ref it) .none) _ _ s
  refine wpAny_bind ?_
  unfold Builtin.List.listItems
  refine wpAny_bind (wpAny_seqItems hS rfl (wpAny_pure ?_))
  show wpAny _ _ (updateSeq S (fun _ => #[]) >>= fun _ => letGo (#[] : Array Value).toList.reverse >>= fun _ => Builtin.List.listExtendWith (.ref S) (.ref it) .none) _ _ s
  refine wpAny_bind (wpAny_updateSeq hS rfl ?_)
  have hS1 := Heap.get?_update_self (Obj.mapSeq (fun _ => (#[] : Array Value))) hS rfl
  have oth : ∀ b o, b ≠ S → s.heap.get? b = some o → (s.heap.update S (Obj.mapSeq (fun _ => (#[] : Array Value)))).get? b = some o :=
    fun b o hb e => (Heap.get?_update_other _ _ (Ne.symm hb)).trans e
  refine wpAny_bind (wpAny_letGo ?_)
  generalize s.heap.update S (Obj.mapSeq (fun _ => (#[] : Array Value))) = h1 at hS1 oth ⊢
  have W := (Walks.listRev (prog := prog) (w := w) (A := A.in1) hh it l hne items).toS
  have hit1 : h1.IsRevIter it l ((items.size : Int) - 1) := hit.at fun o e => oth _ _ (Ne.symm hSi) e
  have hl1 : h1.IsList l items := by
    obtain ⟨o, e, r⟩ := hl
    exact ⟨o, oth _ _ (Ne.symm hSl) e, r⟩
  have hSf : S ∉ [it, l] := by simp only [List.mem_cons, List.not_mem_nil, or_false, not_or]; exact ⟨hSi, hSl⟩
  have hT : ({ s with heap := h1 } : Shared).TypeIs (.ref it) "list_reverseiterator" := Heap.IsRevIter.typeIs (s := { s with heap := h1 }) hit1
  have g1 : Builtin.List.listSameRef (.ref S) (.ref it) = false := by simp [Builtin.List.listSameRef, hSi]
  unfold Builtin.List.listExtendWith
  refine wpAny_bind (wpAny_typeOf hT ?_)
  rw [if_neg (by rw [g1]; decide)]
  refine wpAny_bind (wpAny_pyIter_revIter (s := { s with heap := h1 }) hit1 ?_)
  refine wpAny_bind (wpAny_holding ?_)
  unfold Builtin.List.listLengthHint
  refine wpAny_bind (wpAny_specialOf hT nolen_lri ?_)
  show wpAny _ A.in1 (specialOf (Value.ref it) (Str.ofString "__length_hint__") >>= _) _ _ _
  refine wpAny_bind (wpAny_specialOf hT hint_lri ?_)
  generalize hid : ("list_reverseiterator.__length_hint__" : String) = id0
  wp_delta
  rw [show splitId id0 = some ("list_reverseiterator", "__length_hint__") from by subst hid; decide +kernel]
  subst hid
  refine wpAny_bind (wpAny_isInstance (b := true) hT (by rw [isSubtype_type]; kernel_rfl) ?_)
  refine wpAny_pure ?_
  rw [if_neg (by decide)]
  have e0 : ((items.size : Nat) : Int) - 1 - ((0 : Nat) : Int) = (items.size : Int) - 1 := by omega
  refine wpAny_pure ⟨plainId_quiet F.plain_extend_loop _, codeAny_extend_loopS W hn _ hSf _ items.size 0 _ _ _ rfl (Nat.zero_le _) ⟨Nat.zero_le _, by rw [e0]; exact hit1, hl1⟩ hS1 (ItemsOf.nil _) fun s' acc' c' hm hS' hacc => ?_⟩
  rw [Moved.eq_with hm]
  refine hR s'.heap s'.toks acc' c' (fun b o hb hb2 e => hm.heap b o (fun hmem => ?_) (oth b o hb e)) hS' hacc
  rcases List.mem_cons.mp hmem with e' | hmem
  · exact hb e'
  · exact hb2 (List.mem_singleton.mp hmem)
theorem call_list_rev {Q : Value → Shared → Prop} {it l : Addr} {items : Array Value} (hh : A.handled = none) (hit : s.heap.IsRevIter it l ((items.size : Int) - 1)) (hl : s.heap.IsList l items) (hne : l ≠ it) (hn : items.size ≤ sizeLine)
    (hQ : ∀ h' tk acc' c', (∀ b o, b ≠ it → s.heap.get? b = some o → h'.get? b = some o) →
      h'.get? s.heap.objs.size = some { cls := .type "list", dict := none, data := .seq acc' c', slots := #[] } → ItemsOf (fun i v => items[items.size - 1 - i]? = some v) acc' items.size → Q (.ref s.heap.objs.size) { s with heap := h', toks := tk }) :
    wpAny (model prog w) A (call (.type "list") [.ref it]) Q E s := by
  refine callType_codes (Q₁ := fun obj s₁ => obj = .ref s.heap.objs.size ∧ s₁ = { s with heap := s.heap.push { cls := .type "list", data := .seq #[] } }) F.called_list (F.typeCall_list_1 _) F.entry_list_init
    (code_list_new _ ⟨rfl, rfl⟩) fun obj s₁ h₁ => ?_
  obtain ⟨rfl, rfl⟩ := h₁
  have hS : (s.heap.push { cls := .type "list", data := .seq #[] }).get? s.heap.objs.size = some { cls := .type "list", data := .seq #[] } := Heap.get?_push_size _ rfl
  obtain ⟨oi, hoi, _⟩ := id hit
  obtain ⟨ol, hol, _⟩ := id hl
  have hSi : s.heap.objs.size ≠ it := Nat.ne_of_gt (Heap.lt_size hoi)
  have hSl : s.heap.objs.size ≠ l := Nat.ne_of_gt (Heap.lt_size hol)
  refine ⟨⟨_, hS, rfl⟩, F.args_list_init_2 _ _, init_list_rev (A := A.in1) hh (hit.at fun o e => Heap.get?_push_of_some _ e) (hl.push _) hne hn _ hS hSi hSl fun h' tk acc' c' hk hS' hacc => ?_⟩
  exact ⟨rfl, hQ h' tk acc' c' (fun b o hb e => hk b o (Nat.ne_of_lt (Heap.lt_size e)) hb (Heap.get?_push_of_some _ e)) hS' hacc⟩
end
/-- list(reversed(x)), x a list: a new list -/
def tListRev (K : PySem.W.Frag) (te : TE) : TE := fun σ H Q => te σ H fun v H1 => ∃ (a : Addr) (xs : List V), v = .ref a ∧ SqL K H1 a xs ∧ ∀ q, H1 q = none → Q (.ref q) (upd H1 q (.lst xs.reverse))
theorem pe_listRev {X : Cx} {e : Expr} {te : TE} {p p2 pos pos2 : Pos} (hc : X.calm = true) (hg : Gl X "list") (hm : X.mg "list" = none) (hg2 : Gl X "reversed") (hm2 : X.mg "reversed" = none) (he : PE X e te)
    (hs : starEach [e] X.env = (false, eval e X.env) :: starEach [] X.env := by rfl)
    (hs2 : starEach [.Call (.Name "reversed" p2) [e] [] pos2] X.env = (false, eval (.Call (.Name "reversed" p2) [e] [] pos2) X.env) :: starEach [] X.env := by rfl) :
    PE X (.Call (.Name "list" p) [.Call (.Name "reversed" p2) [e] [] pos2] [] pos) (tListRev X.K te) := by
  refine ⟨fun pins s σ H Q I h => ?_⟩
  refine Call_ (ld_blt I hg hm boot_list (PyProof.Rows.callWith_type1 (args_cons (Call_ (ld_blt I hg2 hm2 PyProof.Rows.boot_reversed (PyProof.Rows.callWith_type1 (args_cons (thn (he.run pins s σ H _ I h) fun u s1 ⟨v, H1, I1, r1, q1⟩ => args_nil ?_) hs) hs rfl))) hs2) hs2 rfl))
  obtain ⟨a, xs, ev, hq, q⟩ := q1
  subst ev
  obtain rfl : u = Value.ref a := r1
  obtain ⟨its, rv, p', hz⟩ := I1.list hq
  refine call_reversed_list p'.isList (args_nil ?_)
  have k0 : ∀ b o, s1.heap.get? b = some o → (s1.heap.push (revObj a ((its.toArray.size : Int) - 1))).get? b = some o := fun b o e => Heap.get?_push_of_some _ e
  have I2 : Inv X pins σ H1 { s1 with heap := s1.heap.push (revObj a ((its.toArray.size : Int) - 1)) } := I1.kept (t' := s1.toks) k0
  obtain ⟨f0, f1, f2, f3, f4, f5⟩ := I1.fpOk (H' := H1) (b := s1.heap.objs.size) (Nat.le_refl _) (I1.hok.fresh (Nat.le_refl _))
  have hl := p'.isList
  obtain ⟨ol, hol, _⟩ := id hl
  have hne : a ≠ s1.heap.objs.size := Nat.ne_of_lt (Heap.lt_size hol)
  have hn : its.toArray.size ≤ sizeLine := by rw [List.size_toArray, ← rv.length]; exact hz
  refine call_list_rev (s := { s1 with heap := s1.heap.push (revObj a ((its.toArray.size : Int) - 1)) }) (I1.ok.hd hc) ⟨_, Heap.get?_push_size _ rfl, rfl, rfl⟩ (hl.push _) hne hn fun h' tk acc c' hk hnew hi => ?_
  have sz : (s1.heap.push (revObj a ((its.toArray.size : Int) - 1))).objs.size = s1.heap.objs.size + 1 := Array.size_push _
  rw [show ({ s1 with heap := s1.heap.push (revObj a ((its.toArray.size : Int) - 1)) } : Shared).heap.objs.size = s1.heap.objs.size + 1 from sz] at hnew ⊢
  have kp : ∀ b o, s1.heap.get? b = some o → h'.get? b = some o := fun b o e => hk b o (Nat.ne_of_lt (Heap.lt_size e)) (k0 b o e)
  refine ⟨.ref (s1.heap.objs.size + 1), upd H1 (s1.heap.objs.size + 1) (.lst xs.reverse), I1.laid (t' := tk) kp (Nat.le_succ _) (show ObjOk X.prog X.w _ _ _ (.lst xs.reverse) from ⟨by rw [List.length_reverse]; exact hz, acc.toList, c', vals_rev rv hi, ?_⟩), rfl, q _ (I1.hok.fresh (Nat.le_succ _))⟩
  rw [Array.toArray_toList]
  exact hnew
end RT
namespace DL
open PySem PySem.Spec L2
open PyProof.Rows hiding St
/-- list(reversed(a list)) -/
def bListRev : List D → DH → Res D
  | [.rol ds], h => .ok (.ref h.length) (h ++ [.lst ds.reverse])
  | [.ref n], h => match h[n]? with
    | some (.lst ds) => .ok (.ref h.length) (h ++ [.lst ds.reverse])
    | _ => .bad
  | _, _ => .bad
def dListRev (f : FE) : FE := fun σ h => (f σ h).bind fun x h1 => bListRev [x] h1
@[simp] theorem dListRev_ap {f : FE} {σ : DE} {h : DH} : dListRev f σ h = (f σ h).bind fun x h1 => bListRev [x] h1 := (rfl)
theorem lrev_at {h : DH} {n : Nat} : bListRev [.ref n] h = (match h[n]? with
    | some (.lst ds) => .ok (.ref h.length) (h ++ [.lst ds.reverse])
    | _ => .bad) := (rfl)
section
variable {X : Cx} {W : WX}
theorem de_listRev {e : Expr} {f : FE} {p p2 pos pos2 : Pos} (hc : X.calm = true) (hm : X.mg "list" = none) (hm2 : X.mg "reversed" = none) (he : PE X e (rE X.K X.mg W f)) (hg : Gl X "list" := by rfl) (hg2 : Gl X "reversed" := by rfl)
    (hs : starEach [e] X.env = (false, eval e X.env) :: starEach [] X.env := by rfl)
    (hs2 : starEach [.Call (.Name "reversed" p2) [e] [] pos2] X.env = (false, eval (.Call (.Name "reversed" p2) [e] [] pos2) X.env) :: starEach [] X.env := by rfl) :
    PE X (.Call (.Name "list" p) [.Call (.Name "reversed" p2) [e] [] pos2] [] pos) (rE X.K X.mg W (dListRev f)) := by
  refine PE.weak (RT.pe_listRev hc hg hm hg2 hm2 he hs hs2) fun τ H Q h => ?_
  obtain ⟨σ, dh, ρ, w, s, p⟩ := h
  refine ⟨σ, dh, ρ, w, s, ?_⟩
  refine Pst.mono (Pst.bind (R := Rep X.K) p) ?_
  rintro v H1 ⟨x, h1, ρ1, g1, w1, rx, p1⟩
  unfold bListRev at p1
  cases rx with
  | rol t r => exact ⟨_, _, rfl, t.sq, new_lst w1 r.reverse p1⟩
  | ref ha =>
    simp only at p1
    split at p1
    · rename_i ds hk
      obtain ⟨xs, hx, r⟩ := cell_lst w1 hk ha
      exact ⟨_, _, rfl, SqL.of hx, new_lst w1 r.reverse p1⟩
    · exact p1.elim
  | _ => exact p1.elim
end
end DL

/-! The data layer: what the laws' own helpers reckon: cells, digits, sameness. -/
namespace DL
open PySem PySem.Spec L2
open PyProof.Rows hiding St
/-! ### reckoning -/
def mixed (c k : Int) : Int :=
  let n := (c + 7919 * k + 1) * 48271 % 2147483647
  let n := n * (n / 1009 + 69621) % 2147483647
  n * (n / 2003 + 40692) % 2147483399
def digBig : Int → List Int → List Int
  | _, [] => []
  | c, s :: r => c % s :: digBig (c / s) r
def digSmall (c : Int) : Nat → List Int → List Int
  | _, [] => []
  | k, s :: r => mixed c k / 16 % s :: digSmall c (k + 1) r
def digits (c : Int) (sizes : List Int) : List Int := if 10 ^ 18 ≤ c then digBig c sizes else digSmall c 0 sizes
def okSize (s : Int) : Prop := 0 < s ∧ s.natAbs.log2 < 9000
theorem digBig_len : ∀ (l : List Int) (c : Int), (digBig c l).length = l.length
  | [], _ => rfl
  | _ :: r, c => congrArg (· + 1) (digBig_len r _)
theorem digSmall_len (c : Int) : ∀ (l : List Int) (k : Nat), (digSmall c k l).length = l.length
  | [], _ => rfl
  | _ :: r, k => congrArg (· + 1) (digSmall_len c r _)
theorem digits_len (c : Int) (l : List Int) : (digits c l).length = l.length := by
  unfold digits
  split
  · exact digBig_len _ _
  · exact digSmall_len _ _ _
theorem mod_of {x s : Int} (h : 0 < s) : 0 ≤ x % s ∧ x % s < s := ⟨Int.emod_nonneg _ (by omega), Int.emod_lt_of_pos _ h⟩
/-- each digit below its size -/
theorem digBig_get : ∀ (l : List Int) (c : Int) (i : Nat) (s : Int), l[i]? = some s → 0 < s → ∃ d, (digBig c l)[i]? = some d ∧ 0 ≤ d ∧ d < s
  | [], _, _, _, h, _ => by simp at h
  | s :: r, c, 0, t, h, p => by
    simp at h
    subst h
    exact ⟨_, rfl, mod_of p⟩
  | s :: r, c, i + 1, t, h, p => digBig_get r _ i t (by simpa using h) p
theorem digSmall_get (c : Int) : ∀ (l : List Int) (k i : Nat) (s : Int), l[i]? = some s → 0 < s → ∃ d, (digSmall c k l)[i]? = some d ∧ 0 ≤ d ∧ d < s
  | [], _, _, _, h, _ => by simp at h
  | s :: r, k, 0, t, h, p => by
    simp at h
    subst h
    exact ⟨_, rfl, mod_of p⟩
  | s :: r, k, i + 1, t, h, p => digSmall_get c r _ i t (by simpa using h) p
theorem digits_get {c : Int} {l : List Int} {i : Nat} {s : Int} (h : l[i]? = some s) (p : 0 < s) : ∃ d, (digits c l)[i]? = some d ∧ 0 ≤ d ∧ d < s := by
  unfold digits
  split
  · exact digBig_get l c i s h p
  · exact digSmall_get c l 0 i s h p
/-- the greedy digits, by the loop -/
theorem loop_big {keep : DH → Prop} {b : FS} {h : DH} {n : D} {x4 : Option D} (hk : ∀ a, keep (h ++ [.lst a]))
    (hb : ∀ (c s : Int) (row : List D) , okSize s → row.length < 1000 → b [some (.int c), some n, some (.ref h.length), some (.int s), x4] (h ++ [.lst row]) = .nx [some (.int (c / s)), some n, some (.ref h.length), some (.int s), x4] (h ++ [.lst (row ++ [.int (c % s)])])) :
    ∀ (l : List Int) (c : Int) (row : List D) (x3 : Option D), (∀ s ∈ l, okSize s) → row.length + l.length < 1000 →
      ∃ σ', forL keep (gN 3) b (l.map D.int) [some (.int c), some n, some (.ref h.length), x3, x4] (h ++ [.lst row]) = .nx σ' (h ++ [.lst (row ++ (digBig c l).map D.int)]) ∧ getS σ' 2 = some (.ref h.length)
  | [], c, row, x3, _, _ => ⟨[some (.int c), some n, some (.ref h.length), x3, x4], by rw [List.map_nil, forL_nil (hk _)]; simp [digBig], rfl⟩
  | s :: l, c, row, x3, hs, hl => by
    rw [List.length_cons] at hl
    obtain ⟨σ', e1, e2⟩ := loop_big hk hb l (c / s) (row ++ [.int (c % s)]) (some (.int s)) (fun t ht => hs t (List.mem_cons_of_mem _ ht)) (by rw [List.length_append, List.length_singleton]; omega)
    refine ⟨σ', ?_, e2⟩
    rw [List.map_cons, forL_cons (hk _) rfl]
    simp only [List.set_cons_succ, List.set_cons_zero]
    rw [hb c s row (hs s (List.mem_cons_self ..)) (by omega), RS.turn_nx, e1, digBig]
    simp
theorem loop_small {keep : DH → Prop} {b : FS} {h : DH} {c : Int} {n : D} {x3 : Option D} {sizes : List Int} (hk : ∀ a, keep (h ++ [.lst a]))
    (hb : ∀ (k : Nat) (s : Int) (row : List D), sizes[k]? = some s → row.length < 1000 → b [some (.int c), some n, some (.ref h.length), x3, some (.int (k : Int))] (h ++ [.lst row]) = .nx [some (.int c), some n, some (.ref h.length), x3, some (.int (k : Int))] (h ++ [.lst (row ++ [.int (mixed c k / 16 % s)])])) :
    ∀ (l : List Int) (k : Nat) (row : List D) (x4 : Option D), sizes.drop k = l → row.length + l.length < 1000 →
      ∃ σ', forL keep (gN 4) b ((List.range' k l.length).map fun (i : Nat) => D.int ((i : Nat) : Int)) [some (.int c), some n, some (.ref h.length), x3, x4] (h ++ [.lst row]) = .nx σ' (h ++ [.lst (row ++ (digSmall c k l).map D.int)]) ∧ getS σ' 2 = some (.ref h.length)
  | [], k, row, x4, _, _ => ⟨[some (.int c), some n, some (.ref h.length), x3, x4], by rw [List.length_nil, List.range'_zero, List.map_nil, forL_nil (hk _)]; simp [digSmall], rfl⟩
  | s :: l, k, row, x4, hs, hl => by
    rw [List.length_cons] at hl
    have h1 : sizes[k]? = some s := by
      have := congrArg (·[0]?) hs
      simpa using this
    have h2 : sizes.drop (k + 1) = l := by
      rw [← List.tail_drop, hs]
      rfl
    obtain ⟨σ', e1, e2⟩ := loop_small hk hb l (k + 1) (row ++ [.int (mixed c k / 16 % s)]) (some (.int (k : Int))) h2 (by rw [List.length_append, List.length_singleton]; omega)
    refine ⟨σ', ?_, e2⟩
    rw [List.length_cons, List.range'_succ, List.map_cons, forL_cons (hk _) rfl]
    simp only [List.set_cons_succ, List.set_cons_zero]
    rw [hb k s row h1 (by omega), RS.turn_nx, e1, digSmall]
    simp
/-- a cell of the script, or a drawn number -/
def cellNo (ns : List Int) (k : Nat) : Int := match ns[k]? with
  | some c => c
  | none => ((ns[0]?.getD 0) + 7919 * (k : Int)) * 48271 % 2147483647
/-- the same data, to a depth -/
def SameN (h : DH) : Nat → D → D → Prop
  | 0, _, _ => False
  | n + 1, x, y => (x = y ∧ flatD y = true) ∨
    (∃ ds es, x = .tup ds ∧ y = .tup es ∧ ds.length = es.length ∧ es.length < 1000 ∧ ∀ (i : Nat) (d e : D), ds[i]? = some d → es[i]? = some e → SameN h n d e) ∨
    (∃ k m ds es, x = .ref k ∧ y = .ref m ∧ h[k]? = some (.lst ds) ∧ h[m]? = some (.lst es) ∧ ds.length = es.length ∧ es.length < 1000 ∧ ∀ (i : Nat) (d e : D), ds[i]? = some d → es[i]? = some e → SameN h n d e)
theorem ext_at {h h' : DH} {n : Nat} {c : Cell} (x : ∃ g, h' = h ++ g) (e : h[n]? = some c) : h'[n]? = some c := by
  obtain ⟨g, rfl⟩ := x
  exact at_old e
theorem opq {α : Type} {r : Res α} {d : α} {h : DH} (e : ∃ g, r = .ok d (h ++ g)) : ∃ h', r = .ok d h' ∧ ∃ g, h' = h ++ g := by
  obtain ⟨g, e⟩ := e
  exact ⟨_, e, g, rfl⟩
theorem put_at {h : DH} {n j : Nat} {p : List D} {v : D} (e : h[n]? = some (.lst p)) (hj : j < p.length) : sPut (.ref n) (.int (j : Int)) v h = .ok .non (h.set n (.lst (p.set j v))) := by
  have q : L2.ixN p.length (j : Int) = some j := by
    unfold L2.ixN
    rw [if_pos (by omega), if_pos (by omega), Int.toNat_natCast]
  simp only [sPut, e, q]
theorem ext_trans {h h1 h2 : DH} (a : ∃ g, h1 = h ++ g) (b : ∃ g, h2 = h1 ++ g) : ∃ g, h2 = h ++ g := by
  obtain ⟨g, rfl⟩ := a
  obtain ⟨g', rfl⟩ := b
  exact ⟨g ++ g', List.append_assoc ..⟩
theorem cut_to {ds : List D} (k : Nat) : DL.cutD ds none (some (k : Int)) = ds.take k := by
  unfold DL.cutD
  rw [HT.sIx_none, HT.sIx_nat, List.drop_zero, Nat.sub_zero]
  rcases Nat.le_total k ds.length with l | l
  · rw [Nat.min_eq_left l]
  · rw [Nat.min_eq_right l, List.take_length, List.take_of_length_le l]
theorem cut_from {ds : List D} (k : Nat) : DL.cutD ds (some (k : Int)) none = ds.drop k := by
  unfold DL.cutD
  rw [HT.sIx_none, HT.sIx_nat]
  rcases Nat.le_total k ds.length with l | l
  · rw [Nat.min_eq_left l, List.take_of_length_le (by rw [List.length_drop]; omega)]
  · rw [Nat.min_eq_right l, Nat.sub_self, List.take_zero, List.drop_eq_nil_of_le l]
theorem cut_mid {ds : List D} (j k : Nat) (h : k ≤ ds.length) : DL.cutD ds (some (j : Int)) (some (k : Int)) = (ds.take k).drop j := by
  unfold DL.cutD
  rw [HT.sIx_nat, HT.sIx_nat, Nat.min_eq_left h, List.drop_take]
  rcases Nat.le_total j ds.length with l | l
  · rw [Nat.min_eq_left l]
  · rw [Nat.min_eq_right l, List.drop_eq_nil_of_le l, List.drop_eq_nil_of_le (Nat.le_refl _), List.take_nil, List.take_nil]
theorem cut_nfrom {ds : List D} (k : Nat) (hk : 0 < k) : DL.cutD ds (some (-(k : Int))) none = ds.drop (ds.length - k) := by
  unfold DL.cutD
  have e : HT.sIx ds.length 0 (some (-(k : Int))) = ds.length - k := by
    show (if -(k : Int) < 0 then (-(k : Int) + (ds.length : Int)).toNat else _) = _
    rw [if_pos (by omega)]
    omega
  rw [HT.sIx_none, e, List.take_of_length_le (by rw [List.length_drop]; omega)]
theorem sIx_neg (n d k : Nat) (hk : 0 < k) : HT.sIx n d (some (-(k : Int))) = n - k := by
  show (if -(k : Int) < 0 then (-(k : Int) + (n : Int)).toNat else _) = _
  rw [if_pos (by omega)]
  omega
theorem cut_nto {ds : List D} (k : Nat) (hk : 0 < k) : DL.cutD ds none (some (-(k : Int))) = ds.take (ds.length - k) := by
  unfold DL.cutD
  rw [HT.sIx_none, sIx_neg _ _ _ hk, List.drop_zero, Nat.sub_zero]
theorem cut_nmid {ds : List D} (j k : Nat) (hk : 0 < k) (h : j + k ≤ ds.length) : DL.cutD ds (some (j : Int)) (some (-(k : Int))) = (ds.take (ds.length - k)).drop j := by
  unfold DL.cutD
  rw [HT.sIx_nat, sIx_neg _ _ _ hk, Nat.min_eq_left (by omega), List.drop_take]
theorem oIAdd_lst' {h : DH} {m n : Nat} {p q : List D} (e1 : h[m]? = some (.lst p)) (e2 : h[n]? = some (.lst q)) (hl : p.length + q.length ≤ 16777216) : oAdd (.ref m) (.ref n) h = .ok (.ref h.length) (h ++ [.lst (p ++ q)]) := oAdd_lst e1 e2 hl
/-- a loop over data whose items change the environment alone -/
theorem for_fold {α : Type} {keep : DH → Prop} {gg : DG} {b : FS} {h : DH} {E : α → DE} (st : α → D → α) (hk : keep h) : ∀ (ds : List D) (a : α),
    (∀ a d, d ∈ ds → ∃ σ1, gg d (E a) = some σ1 ∧ (b σ1 h = .nx (E (st a d)) h ∨ b σ1 h = .ct (E (st a d)) h)) →
    forL keep gg b ds (E a) h = .nx (E (ds.foldl st a)) h
  | [], a, _ => by rw [forL_nil hk]; rfl
  | d :: ds, a, hs => by
    obtain ⟨σ1, e1, e2⟩ := hs a d (List.mem_cons_self ..)
    rw [forL_cons hk e1]
    rcases e2 with e2 | e2
    · rw [e2, RS.turn_nx]
      exact for_fold st hk ds _ fun a d hd => hs a d (List.mem_cons_of_mem _ hd)
    · rw [e2, RS.turn_ct]
      exact for_fold st hk ds _ fun a d hd => hs a d (List.mem_cons_of_mem _ hd)
theorem fin_of {m : Nat} {d : Int} (h0 : 0 ≤ d) (h1 : d < m) : ∃ k : Fin m, d = ((k.val : Nat) : Int) := ⟨⟨d.toNat, by omega⟩, by simp only; omega⟩
/-- each item of the first list fits that of the second -/
inductive Below : List Int → List Int → Prop
  | nil : Below [] []
  | cons {d s : Int} {ds ss : List Int} : 0 ≤ d ∧ d < s → Below ds ss → Below (d :: ds) (s :: ss)
theorem digBig_below : ∀ (l : List Int) (c : Int), (∀ s ∈ l, 0 < s) → Below (digBig c l) l
  | [], _, _ => .nil
  | s :: r, c, h => .cons (mod_of (h s (List.mem_cons_self ..))) (digBig_below r _ fun t ht => h t (List.mem_cons_of_mem _ ht))
theorem digSmall_below (c : Int) : ∀ (l : List Int) (k : Nat), (∀ s ∈ l, 0 < s) → Below (digSmall c k l) l
  | [], _, _ => .nil
  | s :: r, k, h => .cons (mod_of (h s (List.mem_cons_self ..))) (digSmall_below c r _ fun t ht => h t (List.mem_cons_of_mem _ ht))
theorem digits_below (c : Int) (l : List Int) (h : ∀ s ∈ l, 0 < s) : Below (digits c l) l := by
  unfold digits
  split
  · exact digBig_below l c h
  · exact digSmall_below c l 0 h
theorem Below.get : ∀ {ds ss : List Int} {i : Nat} {d : Int}, Below ds ss → ds[i]? = some d → ∃ s, ss[i]? = some s ∧ 0 ≤ d ∧ d < s
  | _, _, _, _, .nil, e => by simp at e
  | _, _, 0, _, .cons h _, e => by
    simp at e
    subst e
    exact ⟨_, rfl, h⟩
  | _, _, i + 1, d, .cons _ r, e => by
    obtain ⟨s, h1, h2⟩ := Below.get (i := i) (d := d) r (by simpa using e)
    exact ⟨s, by simpa using h1, h2⟩
theorem rep_flat (m : Nat) (x : Int) : (List.replicate m [D.int x]).flatten = (List.replicate m x).map D.int := by
  induction m with
  | zero => rfl
  | succ m ih => rw [List.replicate_succ, List.flatten_cons, ih, List.replicate_succ]; rfl
theorem mem_rng {lo : Int} {n : Nat} {d : D} (h : d ∈ rngD lo n) : ∃ i : Nat, i < n ∧ d = .int (lo + (i : Int)) := by
  unfold rngD at h
  obtain ⟨i, hi, rfl⟩ := List.mem_map.mp h
  exact ⟨i, List.mem_range.mp hi, rfl⟩
theorem rngS_nat {n : Nat} {h : DH} (hn : n ≤ 1000000000) : rngS [.int (n : Int)] h = .ok ⟨rngD 0 n, fun _ => True⟩ h := by
  have := rngS_one (h := h) (x := (n : Int)) ⟨by omega, by omega⟩
  rw [Int.toNat_natCast] at this
  exact this
theorem atI_6 {a b c e f g i : D} {l : List D} : L2.atI (a :: b :: c :: e :: f :: g :: i :: l) 6 = some i := L2.atI_nat (j := 6) rfl
theorem atI_7 {a b c e f g i j : D} {l : List D} : L2.atI (a :: b :: c :: e :: f :: g :: i :: j :: l) 7 = some j := L2.atI_nat (j := 7) rfl
end DL

/-! The data layer: sum, max, min, count, index. -/
namespace DL
open PySem PySem.Spec L2
open PyProof.Rows hiding St
def intsD : List D → Option (List Int)
  | [] => some []
  | .int x :: r => (intsD r).map (x :: ·)
  | _ => none
theorem intsD_map : ∀ l : List Int, intsD (l.map D.int) = some l
  | [] => rfl
  | a :: l => by rw [List.map_cons, intsD, intsD_map l]; rfl
section
variable {K : PySem.W.Frag} {mg : Str → Option Value} {ρ : List Addr} {H : Hp}
theorem intsD_rep : ∀ {ds : List D} {vs : List V} {xs : List Int}, RepL K ρ H ds vs → intsD ds = some xs → vs = xs.map V.int
  | _, _, _, .nil, e => by
    cases e
    rfl
  | d :: ds, v :: vs, xs, .cons h r, e => by
    cases h <;> simp only [intsD] at e <;> first | cases e | skip
    obtain ⟨ys, e1, rfl⟩ := Option.map_eq_some_iff.mp e
    rw [intsD_rep r e1]
    rfl
/-- a list's items, of the two kinds of list -/
def seqD (h : DH) : D → Option (List D)
  | .rol ds => some ds
  | .ref n => match h[n]? with
    | some (.lst ds) => some ds
    | _ => none
  | _ => none
theorem seqD_rep {dh : DH} {x : D} {v : V} {ds : List D} (w : Wd K mg ρ dh H) (r : Rep K ρ H x v) (e : seqD dh x = some ds) : ∃ a xs, v = .ref a ∧ SqL K H a xs ∧ RepL K ρ H ds xs := by
  unfold seqD at e
  cases r with
  | rol t r =>
    cases e
    exact ⟨_, _, rfl, t.sq, r⟩
  | ref ha =>
    simp only at e
    split at e
    · rename_i es hk
      cases e
      obtain ⟨xs, hx, r⟩ := cell_lst w hk ha
      exact ⟨_, _, rfl, SqL.of hx, r⟩
    · cases e
  | _ => cases e
def iseqD (h : DH) (x : D) : Option (List Int) := (seqD h x).bind intsD
theorem iseqD_rep {dh : DH} {x : D} {v : V} {ns : List Int} (w : Wd K mg ρ dh H) (r : Rep K ρ H x v) (e : iseqD dh x = some ns) : ∃ a, v = .ref a ∧ SqL K H a (ns.map V.int) := by
  unfold iseqD at e
  obtain ⟨ds, e1, e2⟩ := Option.bind_eq_some_iff.mp e
  obtain ⟨a, xs, rfl, s, r⟩ := seqD_rep w r e1
  rw [intsD_rep r e2] at s
  exact ⟨a, rfl, s⟩
theorem iseqD_lst {h : DH} {n : Nat} {l : List Int} (e : h[n]? = some (.lst (l.map D.int))) : iseqD h (.ref n) = some l := by
  simp only [iseqD, seqD, e, Option.bind_some, intsD_map]
def maxL : List Int → Int
  | [] => 0
  | a :: r => r.foldl max a
def minL : List Int → Int
  | [] => 0
  | a :: r => r.foldl min a
theorem foldl_max : ∀ (r : List Int) (a : Int), a ≤ r.foldl max a ∧ (∀ y ∈ r, y ≤ r.foldl max a) ∧ (r.foldl max a = a ∨ r.foldl max a ∈ r)
  | [], a => ⟨Int.le_refl _, fun y h => (by cases h), .inl rfl⟩
  | b :: r, a => by
    obtain ⟨h1, h2, h3⟩ := foldl_max r (max a b)
    rw [List.foldl_cons]
    refine ⟨by omega, fun y hy => ?_, ?_⟩
    · rcases List.mem_cons.mp hy with rfl | hy
      · omega
      · exact h2 y hy
    · rcases h3 with h3 | h3
      · rcases Int.le_total a b with l | l
        · exact .inr (by rw [h3, Int.max_eq_right l]; exact List.mem_cons_self ..)
        · exact .inl (by rw [h3, Int.max_eq_left l])
      · exact .inr (List.mem_cons_of_mem _ h3)
theorem foldl_min : ∀ (r : List Int) (a : Int), r.foldl min a ≤ a ∧ (∀ y ∈ r, r.foldl min a ≤ y) ∧ (r.foldl min a = a ∨ r.foldl min a ∈ r)
  | [], a => ⟨Int.le_refl _, fun y h => (by cases h), .inl rfl⟩
  | b :: r, a => by
    obtain ⟨h1, h2, h3⟩ := foldl_min r (min a b)
    rw [List.foldl_cons]
    refine ⟨by omega, fun y hy => ?_, ?_⟩
    · rcases List.mem_cons.mp hy with rfl | hy
      · omega
      · exact h2 y hy
    · rcases h3 with h3 | h3
      · rcases Int.le_total a b with l | l
        · exact .inl (by rw [h3, Int.min_eq_left l])
        · exact .inr (by rw [h3, Int.min_eq_right l]; exact List.mem_cons_self ..)
      · exact .inr (List.mem_cons_of_mem _ h3)
theorem maxL_le {l : List Int} : ∀ y ∈ l, y ≤ maxL l := fun y hy => by
  cases l with
  | nil => cases hy
  | cons a r =>
    obtain ⟨h1, h2, _⟩ := foldl_max r a
    rcases List.mem_cons.mp hy with rfl | hy
    · exact h1
    · exact h2 y hy
theorem maxL_mem {l : List Int} (h : l ≠ []) : maxL l ∈ l := by
  cases l with
  | nil => exact absurd rfl h
  | cons a r =>
    obtain ⟨_, _, h3⟩ := foldl_max r a
    rcases h3 with h3 | h3
    · exact List.mem_cons.mpr (.inl h3)
    · exact List.mem_cons_of_mem _ h3
theorem minL_le {l : List Int} : ∀ y ∈ l, minL l ≤ y := fun y hy => by
  cases l with
  | nil => cases hy
  | cons a r =>
    obtain ⟨h1, h2, _⟩ := foldl_min r a
    rcases List.mem_cons.mp hy with rfl | hy
    · exact h1
    · exact h2 y hy
theorem minL_mem {l : List Int} (h : l ≠ []) : minL l ∈ l := by
  cases l with
  | nil => exact absurd rfl h
  | cons a r =>
    obtain ⟨_, _, h3⟩ := foldl_min r a
    rcases h3 with h3 | h3
    · exact List.mem_cons.mpr (.inl h3)
    · exact List.mem_cons_of_mem _ h3
/-- sum(list), max and min of a list or of two -/
def bSum : List D → DH → Res D
  | [x], h => match iseqD h x with
    | some ns => .ok (.int ns.sum) h
    | none => .bad
  | _, _ => .bad
def bMax : List D → DH → Res D
  | [x], h => match iseqD h x with
    | some ns => if 0 < ns.length then .ok (.int (maxL ns)) h else .bad
    | none => .bad
  | [.int i, .int j], h => .ok (.int (if j > i then j else i)) h
  | _, _ => .bad
def bMin : List D → DH → Res D
  | [x], h => match iseqD h x with
    | some ns => if 0 < ns.length then .ok (.int (minL ns)) h else .bad
    | none => .bad
  | [.int i, .int j], h => .ok (.int (if j < i then j else i)) h
  | _, _ => .bad
def rMaxX (K : PySem.W.Frag) : List V → Hp → VK → Prop := fun vs H Q => rMax K vs H Q ∨ ∃ i j, vs = [.int i, .int j] ∧ Q (.int (if j > i then j else i)) H
def rMinX (K : PySem.W.Frag) : List V → Hp → VK → Prop := fun vs H Q => rMin K vs H Q ∨ ∃ i j, vs = [.int i, .int j] ∧ Q (.int (if j < i then j else i)) H
theorem call_maxX {X : Cx} (hc : X.calm = true) : CallR X (.builtin "max") (rMaxX X.K) := CallR.or (cr_max hc) (call_max2 hc)
theorem call_minX {X : Cx} (hc : X.calm = true) : CallR X (.builtin "min") (rMinX X.K) := CallR.or (cr_min hc) (call_min2 hc)
theorem cs_sum : CallS K mg (rSum K) bSum := by
  intro ρ dh H ds vs Q W τ w rx p
  unfold bSum at p
  split at p
  · obtain ⟨v, rfl, r⟩ := rx.inv1
    split at p
    · rename_i ns e
      obtain ⟨a, rfl, s⟩ := iseqD_rep w r e
      exact ⟨a, ns, rfl, s, same_val w (.int _) p⟩
    · exact p.elim
  · exact p.elim
theorem cs_max : CallS K mg (rMaxX K) bMax := by
  intro ρ dh H ds vs Q W τ w rx p
  unfold bMax at p
  split at p
  · obtain ⟨v, rfl, r⟩ := rx.inv1
    split at p
    · rename_i ns e
      obtain ⟨a, rfl, s⟩ := iseqD_rep w r e
      split at p
      · rename_i hl
        refine .inl ⟨a, ns, rfl, s, hl, fun m hm hy => ?_⟩
        have h1 := hy _ (maxL_mem (List.length_pos_iff.mp hl))
        have h2 := maxL_le m hm
        have : m = maxL ns := by omega
        rw [this]
        exact same_val w (.int _) p
      · exact p.elim
    · exact p.elim
  · cases rx with
    | cons a r =>
      cases a
      cases r with
      | cons b r =>
        cases b
        cases r
        exact .inr ⟨_, _, rfl, same_val w (.int _) p⟩
  · exact p.elim
theorem cs_min : CallS K mg (rMinX K) bMin := by
  intro ρ dh H ds vs Q W τ w rx p
  unfold bMin at p
  split at p
  · obtain ⟨v, rfl, r⟩ := rx.inv1
    split at p
    · rename_i ns e
      obtain ⟨a, rfl, s⟩ := iseqD_rep w r e
      split at p
      · rename_i hl
        refine .inl ⟨a, ns, rfl, s, hl, fun m hm hy => ?_⟩
        have h1 := hy _ (minL_mem (List.length_pos_iff.mp hl))
        have h2 := minL_le m hm
        have : m = minL ns := by omega
        rw [this]
        exact same_val w (.int _) p
      · exact p.elim
    · exact p.elim
  · cases rx with
    | cons a r =>
      cases a
      cases r with
      | cons b r =>
        cases b
        cases r
        exact .inr ⟨_, _, rfl, same_val w (.int _) p⟩
  · exact p.elim
/-- xs.count(n) of ints -/
def mCount : D → List D → DH → Res D
  | x, [.int k], h => match iseqD h x with
    | some ns => .ok (.int (ns.count k : Nat)) h
    | none => .bad
  | _, _, _ => .bad
theorem ms_count : MetS K mg (rCntI K) mCount := by
  intro ρ dh H x v ds vs Q W τ w rx rs p
  unfold mCount at p
  split at p
  · obtain ⟨u, rfl, ry⟩ := rs.inv1
    cases ry
    split at p
    · rename_i ns e
      obtain ⟨a, rfl, s⟩ := iseqD_rep w rx e
      exact ⟨a, ns, _, rfl, rfl, s, same_val w (.int _) p⟩
    · exact p.elim
  · exact p.elim
/-- xs.index(x), flat items -/
def mIndex : D → List D → DH → Res D
  | x, [y], h => match seqD h x with
    | some ds => if flatD y = true ∧ ds.all flatD = true then (match ds.findIdx? (fun d => eqF d y) with
      | some j => .ok (.int (j : Nat)) h
      | none => .bad) else .bad
    | none => .bad
  | _, _, _ => .bad
theorem ms_index : MetS K mg (rIndex K) mIndex := by
  intro ρ dh H x v ds vs Q W τ w rx rs p
  unfold mIndex at p
  split at p
  · obtain ⟨u, rfl, ry⟩ := rs.inv1
    split at p
    · rename_i es e
      obtain ⟨a, xs, rfl, s, r⟩ := seqD_rep w rx e
      split at p
      · rename_i hf
        split at p
        · rename_i j ej
          obtain ⟨hl, h1, h2⟩ := List.findIdx?_eq_some_iff_getElem.mp ej
          obtain ⟨z, hz, rz⟩ := r.get (List.getElem?_eq_getElem hl)
          have fz : flatD es[j] = true := List.all_eq_true.mp hf.2 _ (List.getElem_mem hl)
          refine ⟨a, xs, u, j, z, rfl, rfl, s, flat_of ry hf.1, flats_of r hf.2, hz, by rw [eqF_rep rz ry fz hf.1]; exact h1, fun m z' hm hz' => ?_, same_val w (.int _) p⟩
          obtain ⟨d, hd, rd⟩ := r.get' hz'
          obtain ⟨hml, rfl⟩ := List.getElem?_eq_some_iff.mp hd
          rw [eqF_rep rd ry (List.all_eq_true.mp hf.2 _ (List.getElem_mem hml)) hf.1]
          have := h2 m hm
          simpa using this
        · exact p.elim
      · exact p.elim
    · exact p.elim
  · exact p.elim
end
section
variable {h : DH} {n : Nat} {l : List Int} {i j : Int}
theorem sum_at (e : h[n]? = some (.lst (l.map D.int))) : bSum [.ref n] h = .ok (.int l.sum) h := by simp only [bSum, iseqD_lst e]
theorem max_at (e : h[n]? = some (.lst (l.map D.int))) (hl : 0 < l.length) : bMax [.ref n] h = .ok (.int (maxL l)) h := by simp only [bMax, iseqD_lst e, if_pos hl]
theorem min_at (e : h[n]? = some (.lst (l.map D.int))) (hl : 0 < l.length) : bMin [.ref n] h = .ok (.int (minL l)) h := by simp only [bMin, iseqD_lst e, if_pos hl]
@[simp] theorem max_two : bMax [.int i, .int j] h = .ok (.int (if j > i then j else i)) h := (rfl)
@[simp] theorem min_two : bMin [.int i, .int j] h = .ok (.int (if j < i then j else i)) h := (rfl)
theorem count_at (e : h[n]? = some (.lst (l.map D.int))) : mCount (.ref n) [.int i] h = .ok (.int (l.count i : Nat)) h := by simp only [mCount, iseqD_lst e]
theorem index_at {ds : List D} {y : D} {k : Nat} (e : h[n]? = some (.lst ds)) (f : flatD y = true ∧ ds.all flatD = true) (q : ds.findIdx? (fun d => eqF d y) = some k) : mIndex (.ref n) [y] h = .ok (.int (k : Nat)) h := by
  simp only [mIndex, seqD, e, if_pos f, q]
end
/-! ### == of lists and tuples of ints -/
theorem toPs_ints (h : DH) (n : Nat) : ∀ l : List Int, toPs h (n + 1) (l.map D.int) = some (l.map PyData.int)
  | [] => by rw [List.map_nil, toPs]; rfl
  | a :: l => by rw [List.map_cons, toPs, toPs_ints h n l, toP]; rfl
theorem eqv_ints : ∀ l m : List Int, PyData.eqvAll (l.map PyData.int) (m.map PyData.int) = decide (l = m)
  | [], [] => by simp [PyData.eqvAll]
  | [], b :: m => by simp [PyData.eqvAll]
  | a :: l, [] => by simp [PyData.eqvAll]
  | a :: l, b :: m => by
    rw [List.map_cons, List.map_cons, PyData.eqvAll, PyData.eqv, eqv_ints l m]
    by_cases e : a = b <;> by_cases f : l = m <;> simp [e, f]
theorem canLay_ints : ∀ l : List Int, PyData.canLayAll0 (l.map PyData.int) = true
  | [] => by simp [PyData.canLayAll0]
  | a :: l => by rw [List.map_cons, PyData.canLayAll0, PyData.canLay0, canLay_ints l]; rfl
theorem depth_ints : ∀ l : List Int, PyData.depthAll (l.map PyData.int) ≤ 1
  | [] => by simp [PyData.depthAll]
  | a :: l => by
    have := depth_ints l
    rw [List.map_cons, PyData.depthAll, PyData.depth]
    omega
theorem shaped_lst (l : List Int) : SeqAt.shaped (.list (l.map PyData.int)) = true := by
  have := depth_ints l
  simp [SeqAt.shaped, PyData.canLay0, canLay_ints, PyData.depth]
  omega
theorem shaped_tup (l : List Int) : SeqAt.shaped (.tuple (l.map PyData.int)) = true := by
  have := depth_ints l
  simp [SeqAt.shaped, PyData.canLay0, canLay_ints, PyData.depth]
  omega
section
variable {h : DH} {n m : Nat} {l l2 : List Int}
theorem peq_lst (e1 : h[n]? = some (.lst (l.map D.int))) (e2 : h[m]? = some (.lst (l2.map D.int))) : peq h (.ref n) (.ref m) = some (decide (l = l2)) := by
  have t : ∀ (k : Nat) (l : List Int), h[k]? = some (.lst (l.map D.int)) → toP h 66 (.ref k) = some (.list (l.map PyData.int)) := fun k l e => by
    rw [toP, e]
    simp only
    rw [toPs_ints h 64 l]
    rfl
  unfold peq
  rw [t n l e1, t m l2 e2]
  simp only
  rw [if_pos ⟨shaped_lst l, shaped_lst l2⟩, PyData.eqv, eqv_ints]
theorem peq_tup : peq h (.tup (l.map D.int)) (.tup (l2.map D.int)) = some (decide (l = l2)) := by
  have t : ∀ (l : List Int), toP h 66 (.tup (l.map D.int)) = some (.tuple (l.map PyData.int)) := fun l => by
    rw [toP, toPs_ints h 64 l]
    rfl
  unfold peq
  rw [t l, t l2]
  simp only
  rw [if_pos ⟨shaped_tup l, shaped_tup l2⟩, PyData.eqv, eqv_ints]
theorem oEq_lsts (e1 : h[n]? = some (.lst (l.map D.int))) (e2 : h[m]? = some (.lst (l2.map D.int))) : oEq (.ref n) (.ref m) h = .ok (.bl (decide (l = l2))) h := by
  unfold oEq
  rw [show scalD (.ref n) (.ref m) = none from rfl, peq_lst e1 e2]
theorem oNe_lsts (e1 : h[n]? = some (.lst (l.map D.int))) (e2 : h[m]? = some (.lst (l2.map D.int))) : oNe (.ref n) (.ref m) h = .ok (.bl (!decide (l = l2))) h := by
  unfold oNe
  rw [show scalD (.ref n) (.ref m) = none from rfl, peq_lst e1 e2]
theorem oEq_tups : oEq (.tup (l.map D.int)) (.tup (l2.map D.int)) h = .ok (.bl (decide (l = l2))) h := by
  unfold oEq
  rw [show scalD (.tup (l.map D.int)) (.tup (l2.map D.int)) = none from rfl, peq_tup]
theorem oNe_tups : oNe (.tup (l.map D.int)) (.tup (l2.map D.int)) h = .ok (.bl (!decide (l = l2))) h := by
  unfold oNe
  rw [show scalD (.tup (l.map D.int)) (.tup (l2.map D.int)) = none from rfl, peq_tup]
end
@[simp] theorem oNe_in {x : Int} {h : DH} : oNe (.int x) .non h = .ok (.bl true) h := (rfl)
@[simp] theorem oNe_ni {x : Int} {h : DH} : oNe .non (.int x) h = .ok (.bl true) h := (rfl)
@[simp] theorem oNe_sn {x : Str} {h : DH} : oNe (.str x) .non h = .ok (.bl true) h := (rfl)
@[simp] theorem oNe_ns {x : Str} {h : DH} : oNe .non (.str x) h = .ok (.bl true) h := (rfl)
@[simp] theorem oNe_bl {x y : Bool} {h : DH} : oNe (.bl x) (.bl y) h = .ok (.bl (!decide (x = y))) h := (rfl)
/-- a comprehension by what holds before each item -/
theorem lc_inv {keep : DH → Prop} {gg : DG} {e : FE} {σ : DE} {n : Nat} {ds : List D} (I : Nat → List D → DH → Prop) (hk : ∀ i acc h, I i acc h → keep h) (hl : ds.length < 16777216)
    (hs : ∀ i d acc h, ds[i]? = some d → I i acc h → ∃ σ1 y h2, gg d σ = some σ1 ∧ e σ1 h = .ok y h2 ∧ h2[n]? = some (.lst acc) ∧ I (i + 1) (acc ++ [y]) (h2.set n (.lst (acc ++ [y])))) :
    ∀ h0, I 0 [] h0 → ∃ acc h', lcL keep gg dYes e σ n ds h0 = .ok (.ref n) h' ∧ acc.length = ds.length ∧ I ds.length acc h' := by
  suffices key : ∀ (r : List D) (i : Nat) (acc : List D) (h : DH), ds.drop i = r → i ≤ ds.length → acc.length = i → I i acc h → ∃ acc h', lcL keep gg dYes e σ n r h = .ok (.ref n) h' ∧ acc.length = ds.length ∧ I ds.length acc h' from
    fun h0 hi => key ds 0 [] h0 rfl (Nat.zero_le _) rfl hi
  intro r
  induction r with
  | nil =>
    intro i acc h e1 le la hi
    have : i = ds.length := by
      have := congrArg List.length e1
      rw [List.length_drop, List.length_nil] at this
      omega
    subst this
    exact ⟨acc, h, by rw [lcL_nil (hk _ _ _ hi)], la, hi⟩
  | cons d r ih =>
    intro i acc h e1 le la hi
    have hd : ds[i]? = some d := by
      have := congrArg (·[0]?) e1
      simpa using this
    have hr : ds.drop (i + 1) = r := by
      rw [← List.tail_drop, e1]
      rfl
    have lt : i < ds.length := (List.getElem?_eq_some_iff.mp hd).1
    obtain ⟨σ1, y, h2, g1, g2, g3, g4⟩ := hs i d acc h hd hi
    obtain ⟨acc', h', f1, f2, f3⟩ := ih (i + 1) (acc ++ [y]) _ hr lt (by rw [List.length_append, la]; rfl) g4
    exact ⟨acc', h', by rw [lcL_turn (hk _ _ _ hi) g1 g2 g3 (by omega), f1], f2, f3⟩
end DL

/-! The data layer: own errors raised and caught. -/
namespace DL
open PySem PySem.Spec L2
open PyProof.Rows hiding St
/-- an own error class over ValueError, without an __init__ of its own -/
def ExcCls (K : PySem.W.Frag) (mg : Str → Option Value) (x : Str) : Prop := ∃ C, mg x = some (.ref C) ∧ PySem.W.excIn K C [.type "ValueError", .type "Exception", .type "BaseException", .type "object"] "ValueError.__new__" = true ∧
  PySem.W.keepIn K (.ref C) = true ∧ PySem.W.subIn K (.ref C) (.type "BaseException") = some true ∧ PySem.W.typeIn K (.ref C) = some (.type "type")
/-- whether an error of class y is caught by a clause that names x -/
def ExmIs (K : PySem.W.Frag) (mg : Str → Option Value) (y x : Str) (b : Bool) : Prop := ∃ C D, mg y = some (.ref C) ∧ mg x = some (.ref D) ∧ PySem.W.exmOne K (.ref C) (.ref D) = some b
inductive ExmL (K : PySem.W.Frag) (mg : Str → Option Value) (x : Str) : List (Str × Bool) → Prop
  | nil : ExmL K mg x []
  | cons {y : Str} {b : Bool} {l : List (Str × Bool)} : ExmIs K mg y x b → ExmL K mg x l → ExmL K mg x ((y, b) :: l)
def lookE (y : Str) : List (Str × Bool) → Option Bool
  | [] => none
  | (z, b) :: l => if z = y then some b else lookE y l
theorem ExmL.look {K : PySem.W.Frag} {mg : Str → Option Value} {x y : Str} {b : Bool} : ∀ {l : List (Str × Bool)}, ExmL K mg x l → lookE y l = some b → ExmIs K mg y x b
  | _, .nil, e => by cases e
  | (z, c) :: l, .cons h r, e => by
    unfold lookE at e
    split at e
    · rename_i q
      subst q
      cases e
      exact h
    · exact r.look e
def dRaise (x : Str) (f : FE) : FS := dThen f fun _ σ h => .exc ⟨x, []⟩ σ h
/-- no error leaves a suite -/
def RS.seal : RS → RS
  | .exc _ _ _ => .bad
  | r => r
def dTry (fb : FS) (l : List (Str × Bool)) (fs : FS) : FS := fun σ h => match fb σ h with
  | .exc e σ1 h1 => match lookE e.cls l with
    | some true => (fs σ1 h1).seal
    | some false => .exc e σ1 h1
    | none => .bad
  | r => r
section
variable {X : Cx} {W : WX}
theorem ds_raise {x : Str} {e : Expr} {f : FE} {p pos pos2 : Pos} (hc : X.calm = true) (tk : Takes X W) (T : ExcCls X.K X.mg x) (he : PE X e (rE X.K X.mg W f)) (hg : Gl X x := by rfl)
    (hs : starEach [e] X.env = (false, eval e X.env) :: starEach [] X.env := by rfl) (hdb : (x == ("__debug__" : Str)) = false := by decide) :
    PS X (.Raise (some (.Call (.Name x p) [e] [] pos)) none pos2) (rS X.K X.mg W (dRaise x f)) := by
  obtain ⟨C, gC, q, kC, bC, tC⟩ := T
  refine PS.weak (ps_raise hc tk (SkE.pmk_own1 PySem.F.excBase_ValueError q gC kC (raises_own bC tC) hg he hs hdb)) fun D τ H r => ?_
  refine rd.mono (fun v H1 => ?_) (rS_then (R := Rep X.K) r)
  rintro ⟨d, σ, dh, ρ, w, s, rx, p⟩
  exact p _ _ _ _ _ (Grow.refl _ _) w s ⟨C, gC, rfl, .inl ⟨rfl, rfl⟩⟩
theorem PstS.seal {K : PySem.W.Frag} {mg : Str → Option Value} {W' : WX} {ρ : List Addr} {H : Hp} {D : Ends} {r : RS} (p : PstS K mg W' ρ H D r.seal) : PstS K mg W0 ρ H D r := by
  cases r with
  | exc e σ h => exact p.elim
  | _ => exact p
theorem ds_try {x : Str} {body suite : List Stmt} {b₀ : Stmt} {np pos pos' : Pos} {fb fs : FS} {l : List (Str × Bool)} (tk : Takes X W) (hx : ∃ D, X.mg x = some (.ref D)) (hl : ExmL X.K X.mg x l)
    (hb : ∀ (W' : WX) (pn : List (Addr × Obj)) (xe : Value → Shared → Prop), Takes (X.tr pn xe) W' → PassesOwn (model X.prog X.w) X.A X.env xe → PSs (X.tr pn xe) body (rS X.K X.mg W' fb))
    (hsu : ∀ (a : Addr) (oe : Obj) (pn : List (Addr × Obj)), PSs (X.suite a ((a, oe) :: pn)) (b₀ :: suite) (rS X.K X.mg W0 fs))
    (hs : X.stack = X.env :: X.outer := by rfl) (hf : X.env.frame = some X.env.locals := by rfl) (hg : Gl X x := by rfl) (hdb : (x == ("__debug__" : Str)) = false := by decide) :
    PS X (.Try body [.ExceptHandler (some (.Name x np)) none (b₀ :: suite) pos'] [] [] pos) (rS X.K X.mg W (dTry fb l fs)) := by
  obtain ⟨D0, gD⟩ := hx
  refine PS.weak (ps_try_only (tb := fun W' => rS X.K X.mg W' fb) (ts := fun _ _ _ => rS X.K X.mg W0 fs) hs hf ⟨hg, hdb, .inl gD⟩ tk hb (fun a oe cls d pn _ _ => hsu a oe pn)) fun D τ H h => ?_
  obtain ⟨σ, dh, ρ, w, s, p⟩ := h
  refine ⟨σ, dh, ρ, w, s, ?_⟩
  unfold dTry at p
  cases e : fb σ dh with
  | exc ev σ1 h1 =>
    simp only [e] at p
    intro ρ1 H1 τ1 c o g1 w1 s1 re
    obtain ⟨C, gC, rfl, rf⟩ := id re
    cases em : lookE ev.cls l with
    | none =>
      simp only [em] at p
      exact p.elim
    | some b =>
      obtain ⟨C2, D2, gC2, gD2, ee⟩ := hl.look em
      rw [gC] at gC2
      rw [gD] at gD2
      cases gC2
      cases gD2
      simp only [em] at p
      refine ⟨b, ee, fun hb2 a ha => ?_, fun hb2 => ?_⟩
      · subst hb2
        simp only at p
        exact ⟨σ1, h1, ρ1, w1, s1, (PstS.seal p).grow g1⟩
      · subst hb2
        simp only at p
        exact p _ _ _ _ _ g1 w1 s1 re
  | nx σ1 h1 => simp only [e] at p; exact p
  | rt d h1 => simp only [e] at p; exact p
  | bk σ1 h1 => simp only [e] at p; exact p
  | ct σ1 h1 => simp only [e] at p; exact p
  | bad => simp only [e] at p; exact p
end
end DL

/-! The data layer: instances of own classes: attributes, methods, making. -/
namespace DL
open PySem PySem.Spec L2
open PyProof.Rows hiding St
/-- what a class says of its instances; its names fl are no attributes of the class -/
def ClsOk (K : PySem.W.Frag) (mg : Str → Option Value) (c : Str) : Prop := ∃ C, mg c = some (.ref C) ∧ Cls K C
def NoA (K : PySem.W.Frag) (mg : Str → Option Value) (c f : Str) : Prop := ∀ C, mg c = some (.ref C) → NoAttr K C f
section
variable {K : PySem.W.Frag} {mg : Str → Option Value} {ρ : List Addr} {H : Hp}
theorem RepF.get : ∀ {fs : List (Str × D)} {xs : List (Str × V)} {f : Str} {d : D}, RepF K ρ H fs xs → fs.lookup f = some d → ∃ v, xs.lookup f = some v ∧ Rep K ρ H d v
  | _, _, _, _, .nil, e => by cases e
  | (g, x) :: fs, (g', y) :: xs, f, d, .cons h r, e => by
    obtain ⟨h1, h2⟩ := h
    dsimp only at h1 h2
    subst h1
    rw [List.lookup_cons] at e ⊢
    cases q : (f == g) with
    | true =>
      rw [q] at e
      cases e
      exact ⟨y, rfl, h2⟩
    | false =>
      rw [q] at e
      exact RepF.get r e
theorem RepF.none : ∀ {fs : List (Str × D)} {xs : List (Str × V)} {f : Str}, RepF K ρ H fs xs → fs.lookup f = none → xs.lookup f = none
  | _, _, _, .nil, _ => rfl
  | (g, x) :: fs, (g', y) :: xs, f, .cons h r, e => by
    obtain ⟨h1, h2⟩ := h
    dsimp only at h1 h2
    subst h1
    rw [List.lookup_cons] at e ⊢
    cases q : (f == g) with
    | true => rw [q] at e; cases e
    | false =>
      rw [q] at e
      exact RepF.none r e
theorem RepF.len : ∀ {fs : List (Str × D)} {xs : List (Str × V)}, RepF K ρ H fs xs → fs.length = xs.length
  | _, _, .nil => rfl
  | _ :: _, _ :: _, .cons _ r => congrArg (· + 1) (RepF.len r)
/-- an attribute stored -/
def putFD (f : Str) (d : D) : List (Str × D) → List (Str × D)
  | [] => [(f, d)]
  | (g, x) :: r => if g = f then (g, d) :: r else (g, x) :: putFD f d r
theorem RepF.put {f : Str} {d : D} {v : V} (h : Rep K ρ H d v) : ∀ {fs : List (Str × D)} {xs : List (Str × V)}, RepF K ρ H fs xs → RepF K ρ H (putFD f d fs) (putF f v xs)
  | _, _, .nil => .cons ⟨rfl, h⟩ .nil
  | (g, x) :: fs, (g', y) :: xs, .cons q r => by
    obtain ⟨h1, h2⟩ := q
    dsimp only at h1 h2
    subst h1
    unfold putFD putF
    split
    · exact .cons ⟨rfl, h⟩ r
    · exact .cons ⟨rfl, h2⟩ (RepF.put h r)
theorem cell_obj {dh : DH} {n : Nat} {a : Addr} {c : Str} {fs : List (Str × D)} (w : Wd K mg ρ dh H) (hk : dh[n]? = some (.obj c fs)) (ha : ρ[n]? = some a) : ∃ C dx xs, mg c = some (.ref C) ∧ H a = some (.ins C dx xs) ∧ RepF K ρ H fs xs := w.cellAt hk ha
end
/-- e.f -/
def fldD (c f : Str) (x : D) (h : DH) : Res D := match x with
  | .ref n => match h[n]? with
    | some (.obj c' fs) => if c' = c then (match fs.lookup f with
      | some d => .ok d h
      | none => .bad) else .bad
    | _ => .bad
  | _ => .bad
def dFld (c f : Str) (fo : FE) : FE := fun σ h => (fo σ h).bind fun x h1 => fldD c f x h1
/-- o.f = v -/
def putD (c f : Str) (v x : D) (h : DH) : Res D := match x with
  | .ref n => match h[n]? with
    | some (.obj c' fs) => if c' = c ∧ fs.length < 1000 then .ok .non (h.set n (.obj c (putFD f v fs))) else .bad
    | _ => .bad
  | _ => .bad
def dPutF (c f : Str) (fo fv : FE) : FS := dThen fv fun v => dThen fo fun x σ h => match putD c f v x h with
  | .ok _ h' => .nx σ h'
  | _ => .bad
section
variable {X : Cx} {W : WX} {o e value : Expr} {es : List Expr} {pos pos' apos : Pos} {fo fv : FE} {c f : Str}
theorem de_fld (T : ClsOk X.K X.mg c) (hn : NoA X.K X.mg c f) (ho : PE X o (rE X.K X.mg W fo)) (hb : attributeBase o f X.env (eval o X.env) = eval o X.env := by rfl) : PE X (.Attribute o f pos) (rE X.K X.mg W (dFld c f fo)) := by
  obtain ⟨C, gC, kC⟩ := T
  refine PE.weak (pe_fld ho hb) fun τ H Q r => ?_
  refine rd.mono (fun v H1 => ?_) (rd_bind (R := Rep X.K) (g := fun x _ h1 => fldD c f x h1) r)
  rintro ⟨x, σ, dh, ρ, w, s, rx, p⟩
  unfold fldD at p
  cases rx <;> first | exact p.elim | skip
  rename_i n a ha
  simp only at p
  split at p
  · rename_i c' fs hk
    split at p
    · rename_i ec
      subst ec
      obtain ⟨C2, dx, xs, gC2, hx, rf⟩ := cell_obj w hk ha
      rw [gC] at gC2
      cases gC2
      split at p
      · rename_i d e
        obtain ⟨v, e1, e2⟩ := rf.get e
        exact ⟨a, C, dx, xs, v, rfl, hx, kC, hn C gC, e1, same_val w e2 p⟩
      · exact p.elim
    · exact p.elim
  · exact p.elim
theorem ds_fld (T : ClsOk X.K X.mg c) (hn : NoA X.K X.mg c f) (ho : PE X o (rE X.K X.mg W fo)) (hv : PE X value (rE X.K X.mg W fv)) (hs : swapsWith value (some (.Attribute o f pos')) pos.line X.env = pure false := by rfl) :
    PS X (.Assign [.Attribute o f pos'] value pos) (rS X.K X.mg W (dPutF c f fo fv)) := by
  obtain ⟨C, gC, kC⟩ := T
  refine PS.weak (ps_fld ho hv hs) fun D τ H r => ?_
  refine rd.mono (fun v H1 => ?_) (rS_then (R := Rep X.K) r)
  rintro ⟨d, σ, dh, ρ, w, s, rd_, p⟩
  refine ⟨σ, dh, ρ, w, s, ?_⟩
  unfold dThen at p
  cases e1 : fo σ dh with
  | exc z h2 => simp only [e1] at p; exact fun ρ2 H2 c o g2 w2 re => p _ _ _ _ _ g2 w2 (s.grow g2) re
  | bad => simp only [e1] at p; exact p
  | ok x h2 =>
    simp only [e1] at p
    intro ρ2 H2 ov g2 w2 ro
    have p2 := p.grow g2
    have rd2 := rd_.grow g2
    unfold putD at p2
    cases ro <;> first | exact p2.elim | skip
    rename_i n a ha
    simp only at p2
    cases hk : h2[n]? with
    | none => simp only [hk] at p2; exact p2.elim
    | some cl =>
      cases cl with
      | obj c' fs =>
        simp only [hk] at p2
        by_cases q : c' = c ∧ fs.length < 1000
        · rw [if_pos q] at p2
          obtain ⟨C2, dx, xs, gC2, hx, rf⟩ := cell_obj w2 hk ha
          rw [q.1, gC] at gC2
          cases gC2
          refine ⟨a, C, dx, xs, rfl, hx, kC, hn C gC, by rw [← rf.len]; exact q.2, ?_⟩
          simp only at p2
          exact p2 _ _ _ (grow_put hx trivial) (w2.put ha hx trivial ⟨C, dx, putF f v xs, gC, upd_same, (RepF.put rd2 rf).grow (grow_put hx trivial)⟩) ((s.grow g2).grow (grow_put hx trivial))
        · rw [if_neg q] at p2
          exact p2.elim
      | lst _ => simp only [hk] at p2; exact p2.elim
      | dic _ => simp only [hk] at p2; exact p2.elim
      | ldic _ => simp only [hk] at p2; exact p2.elim
end
/-! ### methods, making -/
/-- a method of a class, proved -/
def HasM (P : Program) (w : World) (K : PySem.W.Frag) (mg : Str → Option Value) (base : Heap) (k : Nat) (c m : Str) (ps : List Str) (F : Fn) : Prop :=
  ∃ (C f : Addr) (fd : FuncData), mg c = some (.ref C) ∧ Cls K C ∧ Meth K C m f ∧ FnOk P w K mg base (L2.CX P w) k f fd ps (spD K mg F) ∧ Binds K fd ps []
/-- a class's __init__, proved -/
def HasI (P : Program) (w : World) (K : PySem.W.Frag) (mg : Str → Option Value) (base : Heap) (k : Nat) (c : Str) (ps : List Str) (F : Fn) : Prop :=
  ∃ (C f : Addr) (fd : FuncData), mg c = some (.ref C) ∧ Mk K C f ∧ FnOk P w K mg base (L2.CX P w) k f fd ps (spD K mg F) ∧ Binds K fd ps []
/-- the instance has no such attribute of its own -/
def isObj (c m : Str) (x : D) (h : DH) : Bool := match x with
  | .ref n => match h[n]? with
    | some (.obj c' fs) => c' == c && (fs.lookup m).isNone
    | _ => false
  | _ => false
def dMeth (c m : Str) (F : Fn) (fo : FE) (g : FA) : FE := fun σ h => (fo σ h).bind fun x h1 => if isObj c m x h1 = true then (g σ h1).bind fun xs h2 => F (x :: xs) h2 else .bad
def newD (c : Str) (F : Fn) (xs : List D) (h1 : DH) : Res D := match F (.ref h1.length :: xs) (h1 ++ [.obj c []]) with
  | .ok .non h2 => .ok (.ref h1.length) h2
  | .exc e h2 => .exc e h2
  | _ => .bad
def dMake (c : Str) (F : Fn) (g : FA) : FE := fun σ h => (g σ h).bind fun xs h1 => newD c F xs h1
section
variable {X : Cx} {W : WX} {k j : Nat} {o e : Expr} {es : List Expr} {pos apos p : Pos} {fo : FE} {g : FA} {c m : Str} {ps : List Str} {F : Fn} {pl : Sem Bool}
/-- an instance of the class at C without the attribute -/
theorem isObj_rep {K : PySem.W.Frag} {mg : Str → Option Value} {ρ : List Addr} {H : Hp} {dh : DH} {x : D} {v : V} {C : Addr} (w : Wd K mg ρ dh H) (r : Rep K ρ H x v) (gC : mg c = some (.ref C)) (e : isObj c m x dh = true) :
    ∃ a dx fs, v = .ref a ∧ H a = some (.ins C dx fs) ∧ fs.lookup m = none := by
  unfold isObj at e
  cases r <;> first | (cases e; done) | skip
  rename_i n a ha
  simp only at e
  split at e
  · rename_i c' fs hk
    simp only [Bool.and_eq_true, beq_iff_eq, Option.isNone_iff_eq_none] at e
    obtain ⟨rfl, e2⟩ := e
    obtain ⟨C2, dx, xs, gC2, hx, rf⟩ := cell_obj w hk ha
    rw [gC] at gC2
    cases gC2
    exact ⟨a, dx, xs, rfl, hx, rf.none e2⟩
  · cases e
theorem de_meth (h : HasM X.prog X.w X.K X.mg X.base k c m ps F) (hr : Room j X.A) (hk : k ≤ j) (tk : Takes X W) (ho : PE X o (rE X.K X.mg W fo)) (ha : PA X (e :: es) (rA X.K X.mg W g))
    (hst : starEach (e :: es) X.env = (false, eval e X.env) :: starEach es X.env := by rfl) (hpl : (backTo pos (starEach es X.env)).any (·.1) = false := by rfl)
    (ht : eval (.Call (.Attribute o m apos) (e :: es) [] pos) X.env = (do
      let ov ← eval o X.env
      standAt apos.atName
      let (f, first) ← holding [ov] (getMethod ov m pl)
      callWith pos f first (backTo pos (starEach (e :: es) X.env)) (backToKw pos (keywordEach [] X.env))) := by rfl) :
    PE X (.Call (.Attribute o m apos) (e :: es) [] pos) (rE X.K X.mg W (dMeth c m F fo g)) := by
  obtain ⟨C, f, fd, gC, kC, M, G, hb⟩ := h
  refine ⟨fun pins s σ H Q I r => ?_⟩
  refine PySem.W.methodCall_KW (pl := pl) (thn (ho.run pins s σ H _ I (rd_bind (R := Rep X.K) (R2 := Rep X.K) (g := fun x σ h1 => if isObj c m x h1 = true then (g σ h1).bind fun xs h2 => F (x :: xs) h2 else .bad) r)) fun u s1 ⟨v, H1, I1, rv, q⟩ => ?_) ht
  obtain ⟨x, σ1, dh, ρ, w, sσ, rx, p⟩ := q
  split at p
  · rename_i ob
    obtain ⟨a, dx, fs, rfl, hx, l⟩ := isObj_rep w rx gC ob
    obtain rfl : u = Value.ref a := rv
    refine getmeth_ok I1 hx kC M l ?_
    refine PySem.W.callWith_K (first := [.ref a]) (h₀ := X.base) I.ok.mod.kin M.kp (thn (ha.run pos pins s1 σ H1 (fun vs H2 => spD X.K X.mg F (.ref a :: vs) H2 Q (WE W σ)) I1 ?_) fun us s2 ⟨vs, H2, I2, r2, q2⟩ => ⟨I2.kIn, ?_⟩) hst hpl
    · refine ⟨σ1, dh, ρ, w, sσ, ?_⟩
      cases e1 : g σ1 dh with
      | ok xs h2 =>
        simp only [e1, Res.bind] at p
        intro ρ2 H2 vs g2 w2 rvs
        refine ⟨x :: xs, h2, ρ2, w2, .cons (rx.grow g2) rvs, ⟨(V.ref a :: vs).length, by rw [List.length_cons, rvs.length]; rfl, rfl⟩, ?_⟩
        have p2 := p.grow g2
        cases e : F (x :: xs) h2 with
        | ok a h => rw [e] at p2; exact p2
        | exc z h => rw [e] at p2; exact p2
        | bad => rw [e] at p2; exact p2
      | exc z h2 => simp only [e1, Res.bind] at p; exact p
      | bad => simp only [e1, Res.bind] at p; exact p
    · exact run_fnS (us := .ref a :: us) (vs := .ref a :: vs) G (hr.mono hk) hb (passAt tk σ) I2 (.cons rfl r2) q2
  · exact p.elim
theorem de_meth0 (h : HasM X.prog X.w X.K X.mg X.base k c m ps F) (hr : Room j X.A) (hk : k ≤ j) (tk : Takes X W) (ho : PE X o (rE X.K X.mg W fo))
    (ht : eval (.Call (.Attribute o m apos) [] [] pos) X.env = (do
      let ov ← eval o X.env
      standAt apos.atName
      let (f, first) ← holding [ov] (getMethod ov m pl)
      callWith pos f first (backTo pos (starEach [] X.env)) (backToKw pos (keywordEach [] X.env))) := by rfl) :
    PE X (.Call (.Attribute o m apos) [] [] pos) (rE X.K X.mg W (dMeth c m F fo dNil)) := by
  obtain ⟨C, f, fd, gC, kC, M, G, hb⟩ := h
  refine ⟨fun pins s σ H Q I r => ?_⟩
  refine PySem.W.methodCall_KW (pl := pl) (thn (ho.run pins s σ H _ I (rd_bind (R := Rep X.K) (R2 := Rep X.K) (g := fun x σ h1 => if isObj c m x h1 = true then (dNil σ h1).bind fun xs h2 => F (x :: xs) h2 else .bad) r)) fun u s1 ⟨v, H1, I1, rv, q⟩ => ?_) ht
  obtain ⟨x, σ1, dh, ρ, w, sσ, rx, p⟩ := q
  split at p
  · rename_i ob
    obtain ⟨a, dx, fs, rfl, hx, l⟩ := isObj_rep w rx gC ob
    obtain rfl : u = Value.ref a := rv
    refine getmeth_ok I1 hx kC M l ?_
    refine PySem.W.callWith_K0 (first := [.ref a]) I1.kIn M.kp (run_fnS (us := [.ref a]) (vs := [.ref a]) G (hr.mono hk) hb (passAt tk σ) I1 (.cons rfl .nil) ?_)
    refine ⟨[x], dh, ρ, w, .cons rx .nil, ⟨_, rfl, rfl⟩, ?_⟩
    simp only [dNil, Res.bind] at p
    cases e : F [x] dh with
    | ok a h => rw [e] at p; exact p
    | exc z h => rw [e] at p; exact p
    | bad => rw [e] at p; exact p
  · exact p.elim
theorem run_makeS {C f : Addr} {fd : FuncData} {sp : Sp} {E : XK} {pins : List (Addr × Obj)} {σ : L2.St} {H : Hp} {s : Shared} {Q : VK} {us : List Value} {vs : List V} (M : Mk X.K C f) (G : FnOk X.prog X.w X.K X.mg X.base (L2.CX X.prog X.w) k f fd ps sp) (hr : Room (k + 1) X.A) (hb : Binds X.K fd ps [])
    (hx : PassesAt (L2.CX X.prog X.w) X σ E) (I : Inv X pins σ H s) (r : Vals vs us)
    (h : ∀ x dx, H x = none → H dx = none → dx ≠ x → sp (.ref x :: vs) (upd (upd H dx (.own x)) x (.ins C dx [])) (fun v H2 => v = .non ∧ Q (.ref x) H2) E) :
    wpAny (model X.prog X.w) X.A (call (.ref C) us) (EP X pins σ Q) X.xe s := by
  have hq := h (s.heap.objs.size + 1) s.heap.objs.size (I.hok.fresh (Nat.le_succ _)) (I.hok.fresh (Nat.le_refl _)) (Nat.ne_of_lt (Nat.lt_succ_self _))
  have I2 := Inv.made (C := C) I
  have r2 : Vals (V.ref (s.heap.objs.size + 1) :: vs) (Value.ref (s.heap.objs.size + 1) :: us) := .cons rfl r
  have hl : (Value.ref (s.heap.objs.size + 1) :: us).length = ps.length := by
    have e := r2.length
    rw [G.len _ _ _ _ hq] at e
    exact e.symm
  have bb := hb (⟨((s.heap.push PySem.W.emptyDict).push (PySem.W.instObj C s.heap.objs.size)), s.gens, s.drawn, s.toks, s.os⟩ : Shared) (Value.ref (s.heap.objs.size + 1) :: us) I2.kIn (by rw [List.append_nil]; exact hl)
  rw [List.append_nil] at bb
  refine wpAny_call (make_map (f := f) I.kIn M.makes M.init (beq_iff_eq.mp M.fn) (codeAny_mono (G.run _ X.stack _ _ ⟨Value.ref (s.heap.objs.size + 1) :: us, []⟩ (Value.ref (s.heap.objs.size + 1) :: us) _ _ E (hr.make C us [])
    (I2.env0.make C us []) bb r2 hq) fun r s' hq' => ?_))
  cases r with
  | error e => exact hx pins _ _ e s' I2 hq'
  | ok fl =>
    cases fl with
    | ret u =>
      obtain ⟨v, H', I3, rv, ev, q3⟩ := I2.after hq'
      subst ev
      exact ⟨rv, ⟨V.ref (s.heap.objs.size + 1), H', I3, rfl, q3⟩⟩
    | next => exact False.elim hq'
    | brk => exact False.elim hq'
    | cont => exact False.elim hq'
theorem de_make {x : Str} (h : HasI X.prog X.w X.K X.mg X.base k x ps F) (hr : Room j X.A) (hk : k + 1 ≤ j) (tk : Takes X W) (ha : PA X (e :: es) (rA X.K X.mg W g)) (hg : Gl X x := by rfl)
    (hdb : (x == ("__debug__" : Str)) = false := by decide) (he : starEach (e :: es) X.env = (false, eval e X.env) :: starEach es X.env := by rfl) (hpl : (backTo pos (starEach es X.env)).any (·.1) = false := by rfl) :
    PE X (.Call (.Name x p) (e :: es) [] pos) (rE X.K X.mg W (dMake x F g)) := by
  obtain ⟨C, f, fd, gC, M, G, hb⟩ := h
  refine ⟨fun pins s σ H Q I r => ?_⟩
  refine wpAny_Call_Name_kw (ld_glob I hg gC ?_ hdb)
  refine PySem.W.callWith_K (h₀ := X.base) I.ok.mod.kin M.kp (thn (ha.run pos pins s σ H _ I (rd_bind (R := RepL X.K) (R2 := Rep X.K) (g := fun xs _ h1 => newD x F xs h1) r)) fun us s1 ⟨vs, H1, I1, r1, q⟩ => ⟨I1.kIn, ?_⟩) he hpl
  obtain ⟨xs, σ1, dh, ρ, w, sσ, rx, p⟩ := q
  refine run_makeS M G (hr.mono hk) hb (passAt tk σ) I1 r1 fun y dx hy hd hne => ?_
  have g1 : Grow ρ H1 ρ (upd H1 dx (.own y)) := grow_upd hd
  have hy2 : upd H1 dx (.own y) y = none := by rw [upd_ne (Ne.symm hne)]; exact hy
  have w1 : Wd X.K X.mg ρ dh (upd H1 dx (.own y)) := w.side hd
  have g2 : Grow ρ (upd H1 dx (.own y)) (ρ ++ [y]) (upd (upd H1 dx (.own y)) y (.ins C dx [])) := grow_cell hy2
  have w2 : Wd X.K X.mg (ρ ++ [y]) (dh ++ [.obj x []]) (upd (upd H1 dx (.own y)) y (.ins C dx [])) := w1.new hy2 ⟨C, dx, [], gC, upd_same, .nil⟩
  have at_ : (ρ ++ [y])[dh.length]? = some y := new_at w1 y
  refine ⟨.ref dh.length :: xs, dh ++ [.obj x []], ρ ++ [y], w2, .cons (.ref at_) (rx.grow (g1.trans g2)), ⟨(V.ref y :: vs).length, by rw [List.length_cons, rx.length]; rfl, rfl⟩, ?_⟩
  have p2 := p.grow (g1.trans g2)
  unfold newD at p2
  cases e1 : F (.ref dh.length :: xs) (dh ++ [.obj x []]) with
  | ok d h2 =>
    rw [e1] at p2
    cases d <;> first | exact p2.elim | skip
    intro ρ3 H3 v g3 w3 rv
    cases rv
    exact ⟨rfl, p2 _ _ _ g3 w3 (.ref (g3.at_ at_))⟩
  | exc z h2 =>
    rw [e1] at p2
    exact p2
  | bad =>
    rw [e1] at p2
    exact p2
end
/-! ### how the end hands classes over -/
section
variable {P : Program} {w : World} {K : PySem.W.Frag} {mg : Str → Option Value} {base : Heap}
def HereM (K : PySem.W.Frag) (mg : Str → Option Value) (c m qual : Str) (st : Stmt) (ps : List Str) : Prop := ∃ (C f : Addr) (fd : FuncData), mg c = some (.ref C) ∧ Cls K C ∧ Meth K C m f ∧ Fun K m qual st f fd ∧ Binds K fd ps []
def HereI (K : PySem.W.Frag) (mg : Str → Option Value) (c qual : Str) (st : Stmt) (ps : List Str) : Prop := ∃ (C f : Addr) (fd : FuncData), mg c = some (.ref C) ∧ Mk K C f ∧ Fun K "__init__" qual st f fd ∧ Binds K fd ps []
theorem hasM_of {c m qual : Str} {st : Stmt} {ps : List Str} {k : Nat} {F : Fn} (h : HereM K mg c m qual st ps) (ok : ∀ f fd, Fun K m qual st f fd → FnOk P w K mg base (L2.CX P w) k f fd ps (spD K mg F)) : HasM P w K mg base k c m ps F := by
  obtain ⟨C, f, fd, gC, kC, M, hF, hb⟩ := h
  exact ⟨C, f, fd, gC, kC, M, ok f fd hF, hb⟩
theorem hasI_of {c qual : Str} {st : Stmt} {ps : List Str} {k : Nat} {F : Fn} (h : HereI K mg c qual st ps) (ok : ∀ f fd, Fun K "__init__" qual st f fd → FnOk P w K mg base (L2.CX P w) k f fd ps (spD K mg F)) : HasI P w K mg base k c ps F := by
  obtain ⟨C, f, fd, gC, M, hF, hb⟩ := h
  exact ⟨C, f, fd, gC, M, ok f fd hF, hb⟩
theorem noA_of {c f : Str} {C : Addr} (g : mg c = some (.ref C)) (n : PySem.W.findIn K (.ref C) f = some none) : NoA K mg c f := fun C2 g2 => by
  rw [g] at g2
  cases g2
  exact n
theorem exm_is {x y : Str} {C D : Addr} {b : Bool} (gy : mg y = some (.ref C)) (gx : mg x = some (.ref D)) (h1 : PySem.W.subIn K (.ref D) (.type "BaseException") = some true) (h2 : PySem.W.isClsIn K D = true) (h3 : PySem.W.typeIn K (.ref D) = some (.type "type")) (h4 : PySem.W.subIn K (.ref C) (.ref D) = some b) : ExmIs K mg y x b := by
  refine ⟨C, D, gy, gx, ?_⟩
  have e1 : (PySem.W.subIn K (.ref D) (.type "BaseException") == some true) = true := by rw [h1] <;> rfl
  have e2 : ((PySem.W.clsIn K D).isSome && PySem.W.typeIn K (.ref D) == some (.type "type")) = true := by
    have h2' : (PySem.W.clsIn K D).isSome = true := h2
    rw [h2', h3] <;> rfl
  show (if (PySem.W.subIn K (.ref D) (.type "BaseException") == some true) = true then (if ((PySem.W.clsIn K D).isSome && PySem.W.typeIn K (.ref D) == some (.type "type")) = true then PySem.W.subIn K (.ref C) (.ref D) else none) else none) = some b
  rw [if_pos e1, if_pos e2]
  exact h4
end
end DL

/-! The data layer: xs[i] op= e of lists. -/
namespace DL
open PySem PySem.Spec L2
open PyProof.Rows hiding St
section
variable {X : Cx}
theorem get_list : PGet X (rIxL X.K) := by
  intro pins s σ H x y v u Q I rx ry h
  obtain ⟨p, xs, i, z, rfl, rfl, hq, he, q⟩ := h
  cases rx
  obtain ⟨t, rfl⟩ := ry
  obtain ⟨its, r, pl, hz⟩ := I.list hq
  obtain ⟨j, h1, h2, h3, h4, h5⟩ := atI_get he
  obtain ⟨w, ew, rw'⟩ := r.get h2
  have hl := r.length
  have hn := line63
  have fin : EP X pins σ Q w s := ⟨z, H, I, rw', q⟩
  by_cases h0 : 0 ≤ i
  · have hj : i.toNat = j := by
      rw [seqIndex_of h0 h5] at h1
      exact Option.some.inj h1
    exact wpAny_getItem_list pl.isList h0 (by omega) (by rw [hj]; simpa using ew) fin
  · have hj : (i + (its.toArray.size : Int)).toNat = j := by
      rw [seqIndex_neg (by omega) h4] at h1
      rw [List.size_toArray, ← hl]
      exact Option.some.inj h1
    exact wpAny_getItem_list_neg pl.isList (by omega) (by rw [List.size_toArray] <;> omega) (by omega) (by rw [hj]; simpa using ew) fin
/-- a list's item -/
def oIxL : D → D → DH → Res D
  | .ref n, .int i, h => match h[n]? with
    | some (.lst ds) => match L2.atI ds i with
      | some d => .ok d h
      | none => .bad
    | _ => .bad
  | _, _, _ => .bad
def sPutL (o i v : D) (h : DH) : Res D := match o with
  | .ref n => match h[n]? with
    | some (.lst ds) => match i with
      | .int k => match ixN ds.length k with
        | some j => .ok .non (h.set n (.lst (ds.set j v)))
        | none => .bad
      | _ => .bad
    | _ => .bad
  | _ => .bad
def dAugIx (fo fi : FE) (op : D → D → DH → Res D) (fe : FE) : FS := dThen fo fun o => dThen fi fun i => dThen (fun _ h => oIxL o i h) fun x => dThen fe fun y => dThen (fun _ h => op x y h) fun z σ h => match sPutL o i z h with
  | .ok _ h' => .nx σ h'
  | _ => .bad
theorem then_at {α β : Type} {K : PySem.W.Frag} {mg : Str → Option Value} {R : List Addr → Hp → α → β → Prop} {W : WX} {τ : L2.St} {ρ : List Addr} {H : Hp} {E : Ends} {dh : DH} {σ : DE} {f : DE → DH → Res α} {k : α → FS}
    (s : RepS K ρ H σ τ) (p : PstS K mg W ρ H E (dThen f k σ dh)) :
    Pst K mg R W τ ρ H (fun b H1 => ∃ x h1 ρ1, Grow ρ H ρ1 H1 ∧ Wd K mg ρ1 h1 H1 ∧ RepS K ρ1 H1 σ τ ∧ R ρ1 H1 x b ∧ PstS K mg W ρ1 H1 E (k x σ h1)) (f σ dh) := by
  unfold dThen at p
  cases e : f σ dh with
  | ok x h1 =>
    simp only [e] at p
    exact fun ρ1 H1 v g1 w1 rx => ⟨x, h1, ρ1, g1, w1, s.grow g1, rx, p.grow g1⟩
  | exc x h1 =>
    simp only [e] at p
    exact fun ρ1 H1 c o g1 w1 re => p _ _ _ _ _ g1 w1 (s.grow g1) re
  | bad =>
    simp only [e] at p
    exact p
theorem os_ixL {K : PySem.W.Frag} {mg : Str → Option Value} : OpS K mg (rIxL K) oIxL := by
  intro ρ dh H x y v u Q W τ w rx ry p
  cases rx with
  | @ref n a ha =>
    cases ry with
    | int i =>
      simp only [oIxL] at p
      split at p
      · rename_i ds hk
        obtain ⟨xs, hx, r⟩ := cell_lst w hk ha
        split at p
        · rename_i d e
          obtain ⟨v, h1, h2⟩ := r.atI e
          exact ⟨_, _, _, v, rfl, rfl, SqL.of hx, h1, same_val w h2 p⟩
        · exact p.elim
      · exact p.elim
    | _ => exact p.elim
  | _ => cases ry <;> exact p.elim
theorem ds_augix {o i e : Expr} {fo fi fe : FE} {op : Operator} {dop : D → D → DH → Res D} {r : R2} {tpos pos : Pos} {W : WX} (ho : PE X o (rE X.K X.mg W fo)) (hi : PE X i (rE X.K X.mg W fi)) (he : PE X e (rE X.K X.mg W fe)) (hop : OpR X (inplaceOp op) r) (hs : OpS X.K X.mg r dop)
    (ha : ∀ ov iv new, augStore i ov iv new = (do holding [new, ov, iv] (setItem ov iv new); release [new, ov, iv] []; pure .next) := by intros; rfl) :
    PS X (.AugAssign (.Subscript o i tpos) op e pos) (rS X.K X.mg W (dAugIx fo fi dop fe)) := by
  refine PS.weak (ps_augS (tip := r) ho hi get_list he hop set_list ha) fun D τ H q => ?_
  obtain ⟨σ, dh, ρ, w, s, p⟩ := q
  refine ⟨σ, dh, ρ, w, s, (then_at (R := Rep X.K) s p).mono ?_⟩
  rintro vo H1 ⟨do_, h1, ρ1, g1, w1, s1, ro, p1⟩
  refine ⟨σ, h1, ρ1, w1, s1, (then_at (R := Rep X.K) s1 p1).mono ?_⟩
  rintro vi H2 ⟨di_, h2, ρ2, g2, w2, s2, ri, p2⟩
  refine os_ixL ρ2 h2 H2 do_ di_ vo vi _ W τ w2 (ro.grow g2) ri ((then_at (R := Rep X.K) s2 p2).mono ?_)
  rintro vx H3 ⟨dx, h3, ρ3, g3, w3, s3, rx, p3⟩
  refine ⟨σ, h3, ρ3, w3, s3, (then_at (R := Rep X.K) s3 p3).mono ?_⟩
  rintro vy H4 ⟨dy, h4, ρ4, g4, w4, s4, ry, p4⟩
  refine hs ρ4 h4 H4 dx dy vx vy _ W τ w4 (rx.grow g4) ry ((then_at (R := Rep X.K) s4 p4).mono ?_)
  rintro vz H5 ⟨dz, h5, ρ5, g5, w5, s5, rz, p5⟩
  have ro5 := ro.grow (g2.trans (g3.trans (g4.trans g5)))
  have ri5 := ri.grow (g3.trans (g4.trans g5))
  unfold sPutL at p5
  cases ro5 <;> first | exact p5.elim | skip
  rename_i n a hat
  simp only at p5
  cases hk : h5[n]? with
  | none => simp only [hk] at p5; exact p5.elim
  | some cl =>
    cases cl with
    | lst ds =>
      simp only [hk] at p5
      cases ri5 <;> first | exact p5.elim | skip
      rename_i k
      simp only at p5
      cases hj : ixN ds.length k with
      | none => simp only [hj] at p5; exact p5.elim
      | some j =>
        simp only [hj] at p5
        obtain ⟨xs, hx, rl⟩ := cell_lst w5 hk hat
        have g6 : Grow ρ5 H5 ρ5 (upd H5 a (.lst (xs.set j vz))) := grow_put hx trivial
        exact ⟨a, xs, k, j, rfl, rfl, hx, by rw [← rl.length]; exact hj, p5 _ _ _ g6 (w5.put (c := .lst (ds.set j dz)) hat hx trivial ⟨_, upd_same, (rl.set rz j).grow g6⟩) (s5.grow g6)⟩
    | dic kvs =>
      simp only [hk] at p5
      exact p5.elim
    | ldic kvs => simp only [hk] at p5; exact p5.elim
    | obj c fs => simp only [hk] at p5; exact p5.elim
end
@[simp] theorem dAugIx_ap {fo fi fe : FE} {op : D → D → DH → Res D} {σ : DE} {h : DH} : dAugIx fo fi op fe σ h = RS.of σ (fo σ h) fun o h1 => RS.of σ (fi σ h1) fun i h2 => RS.of σ (oIxL o i h2) fun x h3 => RS.of σ (fe σ h3) fun y h4 => RS.of σ (op x y h4) fun z h5 => (match sPutL o i z h5 with
  | .ok _ h' => .nx σ h'
  | _ => .bad) := by
  unfold dAugIx
  simp only [dThen_ap]
  all_goals rfl
end DL

/-! The data layer: in, not in, index of lists whose items are data of any depth. -/
namespace DL
open PySem PySem.Spec L2
open PyProof.Rows hiding St
/-- a list as data of any depth, beside an item -/
def deepD (x y : D) (h : DH) : Option (PyData × List PyData) := match toP h 66 x, toP h 66 y with
  | some d, some (.list ds) => if SeqAt.shaped d = true ∧ SeqAt.shaped (.list ds) = true then some (d, ds) else none
  | _, _ => none
def inY (x y : D) (h : DH) : Option Bool := match inD x y h with
  | some b => some b
  | none => (deepD x y h).map fun p => p.2.any fun z => PyData.eqv z p.1
def oInY (x y : D) (h : DH) : Res D := match inY x y h with
  | some b => .ok (.bl b) h
  | none => .bad
def oNotInY (x y : D) (h : DH) : Res D := match inY x y h with
  | some b => .ok (.bl (!b)) h
  | none => .bad
section
variable {K : PySem.W.Frag} {mg : Str → Option Value} {ρ : List Addr} {H : Hp} {dh : DH}
theorem deepD_rep {x y : D} {v u : V} {d : PyData} {ds : List PyData} (w : Wd K mg ρ dh H) (rx : Rep K ρ H x v) (ry : Rep K ρ H y u) (e : deepD x y dh = some (d, ds)) : Dp K H v d ∧ Dp K H u (.list ds) ∧ SeqAt.shaped d = true ∧ SeqAt.shaped (.list ds) = true := by
  unfold deepD at e
  split at e
  · rename_i d' ds' h1 h2
    split at e
    · rename_i hs
      cases e
      exact ⟨toP_dp w 66 rx h1, toP_dp w 66 ry h2, hs.1, hs.2⟩
    · cases e
  · cases e
end
def rInY (K : PySem.W.Frag) : R2 := fun x y H Q => rInX K false x y H Q ∨ rInD K x y H Q
def rNotInY (K : PySem.W.Frag) : R2 := fun x y H Q => rInX K true x y H Q ∨ rNotInD K x y H Q
theorem op_inY {X : Cx} (hu : X.A.units + 65 < cLine) : OpR X (compareOp .In) (rInY X.K) := OpR.or (op_inX (by omega)) (op_inD hu)
theorem op_notInY {X : Cx} (hu : X.A.units + 65 < cLine) : OpR X (compareOp .NotIn) (rNotInY X.K) := OpR.or (op_notInX (by omega)) (op_notInD hu)
section
variable {K : PySem.W.Frag} {mg : Str → Option Value}
theorem os_inY : OpS K mg (rInY K) oInY := by
  intro ρ dh H x y v u Q W τ w rx ry p
  unfold oInY at p
  split at p
  · rename_i b e
    unfold inY at e
    split at e
    · rename_i b' e1
      cases e
      exact .inl (inX_of (neg := false) w rx ry e1 (same_val w (.bl _) p))
    · obtain ⟨⟨d, ds⟩, e1, rfl⟩ := Option.map_eq_some_iff.mp e
      obtain ⟨a1, a2, a3, a4⟩ := deepD_rep w rx ry e1
      exact .inr ⟨d, ds, a1, a2, a3, a4, same_val w (.bl _) p⟩
  · exact p.elim
theorem os_notInY : OpS K mg (rNotInY K) oNotInY := by
  intro ρ dh H x y v u Q W τ w rx ry p
  unfold oNotInY at p
  split at p
  · rename_i b e
    unfold inY at e
    split at e
    · rename_i b' e1
      cases e
      exact .inl (inX_of (neg := true) w rx ry e1 (same_val w (.bl _) p))
    · obtain ⟨⟨d, ds⟩, e1, rfl⟩ := Option.map_eq_some_iff.mp e
      obtain ⟨a1, a2, a3, a4⟩ := deepD_rep w rx ry e1
      exact .inr ⟨d, ds, a1, a2, a3, a4, same_val w (.bl _) p⟩
  · exact p.elim
/-- xs.index(x), items of any depth -/
def mIndexY : D → List D → DH → Res D
  | x, [y], h => match deepD y x h with
    | some (d, ds) => (match ds.findIdx? (fun z => PyData.eqv z d) with
      | some j => .ok (.int (j : Nat)) h
      | none => .bad)
    | none => .bad
  | _, _, _ => .bad
theorem ms_indexY : MetS K mg (rIndexD K) mIndexY := by
  intro ρ dh H x v ds vs Q W τ w rx rs p
  unfold mIndexY at p
  split at p
  · obtain ⟨u, rfl, ry⟩ := rs.inv1
    split at p
    · rename_i d es e
      obtain ⟨a1, a2, a3, a4⟩ := deepD_rep w ry rx e
      split at p
      · rename_i j ej
        obtain ⟨hl, h1, h2⟩ := List.findIdx?_eq_some_iff_getElem.mp ej
        obtain ⟨a, rfl⟩ : ∃ a, v = V.ref a := by
          cases a2 with
          | lst _ _ => exact ⟨_, rfl⟩
        refine ⟨a, u, d, es, j, es[j], rfl, rfl, a2, a1, a4, a3, List.getElem?_eq_getElem hl, h1, fun m z' hm hz' => ?_, same_val w (.int _) p⟩
        obtain ⟨hml, rfl⟩ := List.getElem?_eq_some_iff.mp hz'
        have := h2 m hm
        simpa using this
      · exact p.elim
    · exact p.elim
  · exact p.elim
end
theorem hu65 {k : Nat} {A : Around} (r : Room k A) : A.units + 65 < cLine := by have := r.un; omega
section
variable {h : DH} {x y : D}
theorem oInY_old {b : Bool} (e : inD x y h = some b) : oInY x y h = .ok (.bl b) h := by simp only [oInY, inY, e]
theorem oNotInY_old {b : Bool} (e : inD x y h = some b) : oNotInY x y h = .ok (.bl (!b)) h := by simp only [oNotInY, inY, e]
end
end DL

/-! The data layer: try .. except X as n. -/
namespace DL
open PySem PySem.Spec L2
open PyProof.Rows hiding St
/-- behind the suite the name is gone -/
def RS.wipe (i : Nat) : RS → RS
  | .nx σ h => .nx (σ.set i none) h
  | .bk σ h => .bk (σ.set i none) h
  | .ct σ h => .ct (σ.set i none) h
  | .rt d h => .rt d h
  | _ => .bad
def dTryAs (fb : FS) (l : List (Str × Bool)) (i : Nat) (fs : Str → FS) : FS := fun σ h => match fb σ h with
  | .exc e σ1 h1 => match lookE e.cls l with
    | some true => if i < σ1.length ∧ e.fs = [] then ((fs e.cls) (σ1.set i none) h1).wipe i else .bad
    | some false => .exc e σ1 h1
    | none => .bad
  | r => r
section
variable {X : Cx} {W : WX}
theorem PSs.ex {ι : Type} {P : ι → Prop} {sts : List Stmt} {t : ι → TS} (h : ∀ i, P i → PSs X sts (t i)) : PSs X sts (fun D σ H => ∃ i, P i ∧ t i D σ H) :=
  ⟨fun pins s σ H D I ⟨i, p, q⟩ => (h i p).run pins s σ H D I q⟩
theorem ds_tryAs {x n : Str} {body suite : List Stmt} {b₀ : Stmt} {np pos pos' : Pos} {fb : FS} {fs : Str → FS} {l : List (Str × Bool)} (i : Nat) (hN : X.N.Nodup) (tk : Takes X W) (hx : ∃ D, X.mg x = some (.ref D)) (hl : ExmL X.K X.mg x l)
    (hb : ∀ (W' : WX) (pn : List (Addr × Obj)) (xe : Value → Shared → Prop), Takes (X.tr pn xe) W' → PassesOwn (model X.prog X.w) X.A X.env xe → PSs (X.tr pn xe) body (rS X.K X.mg W' fb))
    (hsu : ∀ (a : Addr) (oe : Obj) (pn : List (Addr × Obj)) (C : Addr) (y : Str), X.mg y = some (.ref C) → Zc (.ref C) none oe → (∃ vs, oe.data = .fields vs) → PSs (X.suite a ((a, oe) :: pn)) (b₀ :: suite) (fun D σ H => σ[i]? = some (some (.ref a)) ∧ rS X.K X.mg W0 (fs y) D σ H))
    (hi : X.N[i]? = some n := by rfl) (hln : X.env.kindOf n = some .local := by rfl)
    (hs : X.stack = X.env :: X.outer := by rfl) (hf : X.env.frame = some X.env.locals := by rfl) (hg : Gl X x := by rfl) (hdb : (x == ("__debug__" : Str)) = false := by decide) :
    PS X (.Try body [.ExceptHandler (some (.Name x np)) (some n) (b₀ :: suite) pos'] [] [] pos) (rS X.K X.mg W (dTryAs fb l i fs)) := by
  obtain ⟨D0, gD⟩ := hx
  refine PS.weak (ps_try_as (tb := fun W' => rS X.K X.mg W' fb) (ts := fun a cls d D τ H => ∃ p : Str × Addr, (X.mg p.1 = some (.ref p.2) ∧ cls = .ref p.2 ∧ d = none) ∧ (τ[i]? = some (some (.ref a)) ∧ rS X.K X.mg W0 (fs p.1) D τ H)) hs hf hN hi hln ⟨hg, hdb, .inl gD⟩ tk hb
    (fun a oe cls d pn hz hfl => PSs.ex (P := fun p : Str × Addr => X.mg p.1 = some (.ref p.2) ∧ cls = .ref p.2 ∧ d = none) fun p hp => by
      obtain ⟨g, rfl, rfl⟩ := hp
      exact hsu a oe pn p.2 p.1 g hz hfl)) fun D τ H h => ?_
  obtain ⟨σ, dh, ρ, w, s, p⟩ := h
  refine ⟨σ, dh, ρ, w, s, ?_⟩
  unfold dTryAs at p
  cases e : fb σ dh with
  | exc ev σ1 h1 =>
    simp only [e] at p
    intro ρ1 H1 τ1 c o g1 w1 s1 re
    obtain ⟨C, gC, rfl, rf⟩ := id re
    cases em : lookE ev.cls l with
    | none =>
      simp only [em] at p
      exact p.elim
    | some b =>
      obtain ⟨C2, D2, gC2, gD2, ee⟩ := hl.look em
      rw [gC] at gC2
      rw [gD] at gD2
      cases gC2
      cases gD2
      simp only [em] at p
      refine ⟨b, ee, fun hb2 a ha => ?_, fun hb2 => ?_⟩
      · subst hb2
        simp only at p
        split at p
        · rename_i hc
          have ho : o = none := by
            rcases rf with ⟨_, h⟩ | ⟨h, _⟩
            · exact h
            · exact absurd hc.2 h
          refine ⟨(ev.cls, C), ⟨gC, rfl, ho⟩, List.getElem?_set_self (by rw [← s1.length]; exact hc.1), σ1.set i none, h1, ρ1, w1, s1.unset i, ?_⟩
          have p2 := p.grow g1
          cases e3 : fs ev.cls (σ1.set i none) h1 with
          | nx σ4 h4 =>
            simp only [e3, RS.wipe] at p2
            exact fun ρ5 H5 τ5 g5 w5 s5 => p2 _ _ _ g5 w5 (s5.unset i)
          | rt d h4 => simp only [e3, RS.wipe] at p2; exact p2
          | bk σ4 h4 =>
            simp only [e3, RS.wipe] at p2
            exact fun ρ5 H5 τ5 g5 w5 s5 => p2 _ _ _ g5 w5 (s5.unset i)
          | ct σ4 h4 =>
            simp only [e3, RS.wipe] at p2
            exact fun ρ5 H5 τ5 g5 w5 s5 => p2 _ _ _ g5 w5 (s5.unset i)
          | exc _ _ _ => simp only [e3, RS.wipe] at p2; exact p2.elim
          | bad => simp only [e3, RS.wipe] at p2; exact p2.elim
        · exact p.elim
      · subst hb2
        simp only at p
        exact p _ _ _ _ _ g1 w1 s1 re
  | nx σ1 h1 => simp only [e] at p; exact p
  | rt d h1 => simp only [e] at p; exact p
  | bk σ1 h1 => simp only [e] at p; exact p
  | ct σ1 h1 => simp only [e] at p; exact p
  | bad => simp only [e] at p; exact p
end
end DL

/-! The data layer: equations for reckoning with objects and errors. -/
namespace DL
open PySem PySem.Spec L2
open PyProof.Rows hiding St
section
variable {σ : DE} {h : DH} {n : Nat} {c f m x : Str} {fo fv : FE} {g : FA} {F : Fn} {b : FS} {fs : List (Str × D)}
@[simp] theorem dFld_ap : dFld c f fo σ h = (fo σ h).bind fun x h1 => fldD c f x h1 := (rfl)
@[simp] theorem dMeth_ap : dMeth c m F fo g σ h = (fo σ h).bind fun x h1 => if isObj c m x h1 = true then (g σ h1).bind fun xs h2 => F (x :: xs) h2 else .bad := (rfl)
@[simp] theorem dMake_ap : dMake c F g σ h = (g σ h).bind fun xs h1 => newD c F xs h1 := (rfl)
@[simp] theorem dPutF_ap : dPutF c f fo fv σ h = RS.of σ (fv σ h) fun v h1 => RS.of σ (fo σ h1) fun x h2 => (match putD c f v x h2 with
  | .ok _ h' => .nx σ h'
  | _ => .bad) := by
  unfold dPutF
  simp only [dThen_ap]
  all_goals rfl
@[simp] theorem dRaise_ap : dRaise x fo σ h = RS.of σ (fo σ h) fun _ h1 => .exc ⟨x, []⟩ σ h1 := dThen_ap
/-- a try's outcome -/
def RS.caught (r : RS) (l : List (Str × Bool)) (k : DE → DH → RS) : RS := match r with
  | .exc e σ1 h1 => match lookE e.cls l with
    | some true => (k σ1 h1).seal
    | some false => .exc e σ1 h1
    | none => .bad
  | r => r
@[simp] theorem caught_nx {l : List (Str × Bool)} {k : DE → DH → RS} : RS.caught (.nx σ h) l k = .nx σ h := (rfl)
@[simp] theorem caught_rt {l : List (Str × Bool)} {k : DE → DH → RS} {d : D} : RS.caught (.rt d h) l k = .rt d h := (rfl)
@[simp] theorem caught_exc {l : List (Str × Bool)} {k : DE → DH → RS} {e : Exv} : RS.caught (.exc e σ h) l k = (match lookE e.cls l with
    | some true => (k σ h).seal
    | some false => .exc e σ h
    | none => .bad) := (rfl)
@[simp] theorem dTry_ap {l : List (Str × Bool)} {k : FS} : dTry b l k σ h = (b σ h).caught l k := by
  unfold dTry RS.caught
  cases b σ h <;> rfl
@[simp] theorem seal_nx : RS.seal (.nx σ h) = .nx σ h := (rfl)
@[simp] theorem seal_rt {d : D} : RS.seal (.rt d h) = .rt d h := (rfl)
theorem fld_at (e : h[n]? = some (.obj c fs)) : fldD c f (.ref n) h = getR (fs.lookup f) h := by
  simp only [fldD, e, if_true]
  cases fs.lookup f <;> rfl
theorem isObj_at (e : h[n]? = some (.obj c fs)) : isObj c m (.ref n) h = (fs.lookup m).isNone := by
  simp only [isObj, e, beq_self_eq_true, Bool.true_and]
theorem putF_at {v : D} (e : h[n]? = some (.obj c fs)) (hl : fs.length < 1000) : putD c f v (.ref n) h = .ok .non (h.set n (.obj c (putFD f v fs))) := by
  simp [putD, e, hl]
end
end DL

/-! The data layer: enumerate over tuples, index of tuples, list(range(..)), several handlers, keyword-only parameters. -/
namespace DL
open PySem PySem.Spec L2
open PyProof.Rows hiding St
open AutoSeq1 (wpAny_loadPart')

/-! ### enumerate(tuple) -/
theorem meets_enumerate_new1 {v : Value} {o : Obj} {H : Heap → Prop} (B : Begins v o H) :
    Meets (Builtin.«enumerate.__new__» ⟨[.type "enumerate", v], []⟩) (fun _ R s => H s.heap ∧
      R (.ok (.ret (.ref (s.heap.push o).objs.size))) { s with heap := (s.heap.push o).push { cls := .type "enumerate", data := .fields #[.none, .bool false, .ref s.heap.objs.size, rawInt 0, .none, .none] } }) :=
  .of_wp fun prog w A R s h => by
    obtain ⟨hp, g, d, tk, os⟩ := s; obtain ⟨h1, h⟩ := h
    have hsub := sub_enumerate
    have q1 : ∀ {A' : Around} {E : Value → Shared → Prop} {Q : Value → Shared → Prop}, Q (.ref hp.objs.size) ⟨hp.push o, g, d, tk, os⟩ → wpAny (model prog w) A' (pyIter v) Q E ⟨hp, g, d, tk, os⟩ :=
      fun q => B.iter prog w _ _ ⟨hp, g, d, tk, os⟩ _ h1 q
    wp_walk using q1
    refine wpAny_stack_any fun st => wpAny_pure ?_
    split
    · rename_i c _ _ _ _ _
      cases (c == Value.type "enumerate")
      · wp_walk using q1
        exact ⟨_, rfl, h⟩
      · wp_walk using q1
        exact ⟨_, rfl, h⟩
    · wp_walk using q1
      exact ⟨_, rfl, h⟩
section
variable {prog : Program} {w : World} {A : Around} {E : Value → Shared → Prop} {s : Shared}
theorem call_enum1 {v : Value} {o : Obj} {H : Heap → Prop} {Q : Value → Shared → Prop} (B : Begins v o H) (h1 : H s.heap)
    (h : ∀ h', IsEnum h' (s.heap.objs.size + 1) s.heap.objs.size 0 .none → h'.get? s.heap.objs.size = some o → h'.objs.size = s.heap.objs.size + 2 →
      (∀ b o, s.heap.get? b = some o → h'.get? b = some o) → Q (.ref (s.heap.objs.size + 1)) { s with heap := h' }) :
    wpAny (model prog w) A (call (.type "enumerate") [v]) Q E s := by
  refine callType_new F.called_enumerate (by decide) (F.typeCall_enumerate_1 _) (F.newCall_enumerate_1 _) (fun obj => F.args_object_init_2 obj _) F.entry_enumerate_new
    (meets_enumerate_new1 B) ⟨h1, ?_⟩
  have hz : (s.heap.push o).objs.size = s.heap.objs.size + 1 := Heap.size_push ..
  show _ ∧ _
  rw [hz]
  have he : IsEnum ((s.heap.push o).push { cls := .type "enumerate", data := .fields #[.none, .bool false, .ref s.heap.objs.size, rawInt 0, .none, .none] }) (s.heap.objs.size + 1) s.heap.objs.size 0 .none := by
    have := Heap.get?_push_size (s.heap.push o) (o := { cls := .type "enumerate", data := .fields #[.none, .bool false, .ref s.heap.objs.size, rawInt 0, .none, .none] }) rfl
    rw [hz] at this; exact this
  refine ⟨⟨_, he, rfl⟩, h _ he (Heap.get?_push_of_some _ (Heap.get?_push_size _ B.free)) (by rw [Heap.size_push, hz]) fun b o x => Heap.get?_push_of_some _ (Heap.get?_push_of_some _ x)⟩
end
/-- the tuple at a, each item in a new pair -/
def IteT (K : PySem.W.Frag) (a : Addr) : It :=
  ⟨fun i H => ∃ (xs : List V) (x : V), SqT K H a xs ∧ xs[i]? = some x, fun i H v H' => ∃ T x, v = .ref T ∧ H T = none ∧ H' = upd H T (.tup [.int (i : Nat), x]) ∧ ∀ xs, SqT K H a xs → xs[i]? = some x, fun i H => ∃ xs : List V, SqT K H a xs ∧ xs.length ≤ i⟩
theorem turn_enumT {P : Program} {w : World} {K : PySem.W.Frag} {elts : List Expr} {kk : Nat} {tpos : Pos} (a e it : Addr) :
    Turn P w K (.Tuple elts kk tpos) (IteT K a) [e, it] e (fun i h => (∃ old, IsEnum h e it ((i : Nat) : Int) old) ∧ h.IsTupleIter it a i ∧ e ≠ it ∧ a ≠ it ∧ a ≠ e) where
  mem := by simp
  obj := fun i h st b hb => by
    obtain ⟨⟨old, he⟩, ⟨o, ho, hc, hd⟩, _⟩ := st
    have e' : b = e ∨ b = it := by simpa using hb
    rcases e' with z | z
    · rw [z]; exact ⟨_, he, fun v q => nomatch q⟩
    · rw [z]; exact ⟨o, ho, fun v q => by rw [hd] at q; cases q⟩
  keep := fun i h h' st k => let ⟨⟨old, he⟩, hi, hne⟩ := st; ⟨⟨old, k e (by simp) _ he⟩, hi.at fun o q => k it (by simp) o q, hne⟩
  item := by
    intro X hP hw hK hc i pins s σ H E I hf st hg
    subst hP hw hK
    obtain ⟨⟨old, he⟩, hit, hne, hai, hae⟩ := st
    obtain ⟨xs, x, hq, hx⟩ := hg
    obtain ⟨its, rv, p, hz⟩ := I.tuple hq
    obtain ⟨u, hu, ru⟩ := rv.get hx
    have hel : e < s.heap.objs.size := Heap.lt_size he
    have hil : it < s.heap.objs.size := by obtain ⟨_, q, _⟩ := hit; exact Heap.lt_size q
    have hlt : i < its.toArray.size := by
      have := (List.getElem?_eq_some_iff.mp hu).1
      simpa using this
    refine wpAny_pyNext_enum_itemD (Draws.tuple (A := X.A.in1) (I.ok.hd hc) it a hai its.toArray) he ⟨hit, p⟩ hlt hne (by simp; exact ⟨hne, Ne.symm hae⟩) fun u' h' tk hP ho hit' hT hsz hk => ?_
    obtain rfl : u = u' := by
      have : its[i]? = some u' := by simpa using hP
      rw [hu] at this
      cases this
      rfl
    refine ⟨_, rfl, wpAny_letOwnedTupleGo_enum (s := { s with heap := h', toks := tk + 1 }) ho fun h'' he' sb => ?_⟩
    have hT2 : h''.get? s.heap.objs.size = some { cls := .type "tuple", data := .seq #[.int i tk, u] } := (sb.2 _ (Nat.ne_of_gt hel)).trans hT
    have new : ObjOk X.prog X.w (upd H s.heap.objs.size (.tup [.int (i : Nat), x])) h'' s.heap.objs.size (.tup [.int (i : Nat), x]) :=
      ⟨by show 2 ≤ sizeLine; decide, [.int i tk, u], .cons ⟨_, rfl⟩ (.cons ru .nil), ⟨_, hT2, rfl, _, rfl⟩⟩
    have I1 : Inv X pins σ (upd H s.heap.objs.size (.tup [.int (i : Nat), x])) { s with heap := h'', toks := tk + 1 } :=
      I.turnedNew (ch := [e, it]) (fun b ob hb q => (sb.2 b (fun z => hb (by simp [z]))).trans (hk b ob (fun z => hb (by simp [z])) (fun z => hb (by simp [z])) q)) hf (Nat.le_refl _) new
    refine ⟨.ref s.heap.objs.size, _, I1, rfl, ⟨_, x, rfl, I.hok.fresh (Nat.le_refl _), rfl, fun ys hy => by rw [I.tuple_inj hy hq]; exact hx⟩, ⟨⟨u, ?_⟩, hit'.1.at fun o q => (sb.2 it (Ne.symm hne)).trans q, hne, hai, hae⟩, fun b hb => ?_⟩
    · have e1 : ((i + 1 : Nat) : Int) = (i : Int) + 1 := by omega
      rw [e1]; exact he'
    · have hb' : b < s.heap.objs.size := by
        have e' : b = e ∨ b = it := by simpa using hb
        rcases e' with z | z
        · rw [z]; exact hel
        · rw [z]; exact hil
      rw [upd_ne (Nat.ne_of_lt hb')]
      exact (hf b hb).1
  done := by
    intro X hP hw hK hc i pins s σ H E I hf st hg
    subst hP hw hK
    obtain ⟨⟨old, he⟩, hit, hne, hai, hae⟩ := st
    obtain ⟨xs, hq, hx⟩ := hg
    obtain ⟨its, rv, p, hz⟩ := I.tuple hq
    obtain ⟨f0, f1, f2, f3, f4, f5⟩ := hf it (by simp)
    have hl := rv.length
    have hh : X.A.in1.handled = none := I.ok.hd hc
    have hT : s.TypeIs (.ref e) "enumerate" := ⟨_, he, rfl⟩
    unfold pyNext
    refine wpAny_bind (wpAny_attempt (wpAny_callSpecial?_slot (name := Str.ofString "__next__") hT F.slot_enumerate_next
      (wpAny_call_entry F.slot_enumerate_next hT F.entry_enumerate_next ?_ (F.args_enumerate_next_1 _))))
    show wpAny _ _ (field (.ref e) 2 >>= _) _ _ _
    refine wpAny_bind (wpAny_field he rfl (x := .ref it) rfl ?_)
    refine wpAny_bind (wpAny_nextOf_tuple_end hh hit p (by simp; omega) fun h' x eb hx' => ?_)
    obtain ⟨o, ho, hc2⟩ := hx'
    refine wpAny_bind (wpAny_isInstance (T := "StopIteration") (b := true) ⟨o, ho, hc2⟩ isSubtype_stop ?_)
    exact wpAny_pure ⟨rfl, I.turned (t' := s.toks) (fun b o hb q => eb b o hb q) f0 f1 f3 f4 f5⟩
  self := fun A i s Q E st h => let ⟨⟨_, he⟩, _⟩ := st; wpAny_pyIter_enum he h
/-- enumerate of a list or a tuple -/
def iEnumU (K : PySem.W.Frag) (ta : TA) : TI := fun σ H R => ta σ H fun vs H1 => ∃ a xs, vs = [.ref a] ∧ (SqL K H1 a xs ∧ R (Ite K a) H1 ∨ SqT K H1 a xs ∧ R (IteT K a) H1)
theorem pi_enumU {X : Cx} {e : Expr} {ta : TA} {p pos tpos : Pos} {elts : List Expr} {kk : Nat} (hg : Gl X "enumerate") (hm : X.mg "enumerate" = none) (ha : PA X [e] ta) (hs : starEach [e] X.env = [(false, eval e X.env)] := by rfl) :
    PI X (.Tuple elts kk tpos) (.Call (.Name "enumerate" p) [e] [] pos) (iEnumU X.K ta) := by
  refine ⟨fun pins s σ H R I h => ?_⟩
  refine Call_ (ld_blt I hg hm boot_enumerate (PyProof.Rows.callWith_type1 (thn (ha.run pos pins s σ H _ I h) fun us s1 ⟨vs, H1, I1, r1, q1⟩ => ?_) hs rfl))
  obtain ⟨a, xs, ex, q1⟩ := q1
  subst ex
  cases r1 with
  | cons r rr =>
    cases rr
    cases r
    rcases q1 with ⟨hq, q⟩ | ⟨hq, q⟩
    · obtain ⟨its, rv, p', hz⟩ := I1.list hq
      refine call_enumerate_list p'.isList fun h' he hit hsz hk => wpAny_pyIter_enum he ?_
      have I2 : Inv X pins σ H1 { s1 with heap := h' } := I1.kept (t' := s1.toks) hk
      refine ⟨s1.heap.objs.size + 1, [s1.heap.objs.size + 1, s1.heap.objs.size], _, _, H1, rfl, I2, turn_enum a (s1.heap.objs.size + 1) s1.heap.objs.size, ⟨⟨.none, he⟩, hit, Nat.succ_ne_self _⟩, fun b hb => ?_, q⟩
      have e' : b = s1.heap.objs.size + 1 ∨ b = s1.heap.objs.size := by simpa using hb
      have hle : s1.heap.objs.size ≤ b := by
        rcases e' with z | z
        · rw [z]; exact Nat.le_add_right _ _
        · rw [z]; exact Nat.le_refl _
      exact I1.fpOk hle (I1.hok.fresh hle)
    · obtain ⟨its, rv, p', hz⟩ := I1.tuple hq
      have hal : a < s1.heap.objs.size := by obtain ⟨_, q, _⟩ := p'; exact Heap.lt_size q
      refine call_enum1 (begins_tuple a its.toArray) p' fun h' he hit hsz hk => wpAny_pyIter_enum he ?_
      have I2 : Inv X pins σ H1 { s1 with heap := h' } := I1.kept (t' := s1.toks) hk
      refine ⟨s1.heap.objs.size + 1, [s1.heap.objs.size + 1, s1.heap.objs.size], _, _, H1, rfl, I2, turn_enumT a (s1.heap.objs.size + 1) s1.heap.objs.size, ⟨⟨.none, he⟩, ⟨_, hit, rfl, rfl⟩, Nat.succ_ne_self _, Nat.ne_of_lt hal, Nat.ne_of_lt (Nat.lt_succ_of_lt hal)⟩, fun b hb => ?_, q⟩
      have e' : b = s1.heap.objs.size + 1 ∨ b = s1.heap.objs.size := by simpa using hb
      have hle : s1.heap.objs.size ≤ b := by
        rcases e' with z | z
        · rw [z]; exact Nat.le_add_right _ _
        · rw [z]; exact Nat.le_refl _
      exact I1.fpOk hle (I1.hok.fresh hle)
section
variable {X : Cx} {W : WX} {K : PySem.W.Frag} {mg : Str → Option Value}
def enumU (x : D) (h1 : DH) : Res Src := match x with
  | .tup ds => .ok ⟨pairs ds, fun _ => True⟩ h1
  | x => enumS x h1
def dEnumU (f : FE) : FI := fun σ h => (f σ h).bind enumU
theorem src_enumT {ρ : List Addr} {H : Hp} {a : Addr} {ds : List D} {xs : List V} (t : Tp K H a xs) (r : RepL K ρ H ds xs) : SrcOk K mg (RepW K) ρ H ⟨pairs ds, fun _ => True⟩ (IteT K a) := by
  refine ⟨fun i d ρ1 dh1 H1 hd g1 w1 k1 => ?_, fun ρ1 dh1 H1 g1 w1 k1 => ?_⟩
  · obtain ⟨y, hy, rfl⟩ := pairs_get hd
    obtain ⟨v, hv, rv⟩ := r.get hy
    refine ⟨⟨xs, v, (g1.tp t).sq, hv⟩, fun z H2 hz => ?_⟩
    obtain ⟨T, u, rfl, hT, rfl, hu⟩ := hz
    have q := (hu xs (g1.tp t).sq).symm.trans hv
    cases q
    exact ⟨grow_upd hT, w1.side hT, _, T, _, rfl, rfl, .inl (.inl upd_same), .cons (.int _) (.one ((rv.grow g1).grow (grow_upd hT)))⟩
  · exact ⟨xs, (g1.tp t).sq, by rw [← r.length, pairs_len]; exact Nat.le_refl _⟩
theorem di_enumU {e : Expr} {f : FE} {p pos tpos : Pos} {elts : List Expr} {kk : Nat} (hm : X.mg "enumerate" = none) (he : PE X e (rE X.K X.mg W f)) (hg : Gl X "enumerate" := by rfl) (hs : starEach [e] X.env = [(false, eval e X.env)] := by rfl) :
    PI X (.Tuple elts kk tpos) (.Call (.Name "enumerate" p) [e] [] pos) (rI X.K X.mg W (RepW X.K) (dEnumU f)) := by
  refine PI.weak (pi_enumU hg hm (pa_cons he pa_nil (by rw [hs]; rfl)) hs) fun τ H R r => ?_
  refine rd.mono (fun v H1 => ?_) (rd_bind (R := Rep X.K) (g := fun x _ h1 => enumU x h1) r)
  rintro ⟨x, σ, dh, ρ, w, s, rx, p⟩
  have old : Pst X.K X.mg (fun ρ H a b => SrcOk X.K X.mg (RepW X.K) ρ H a b) W τ ρ H1 R (enumS x dh) → ∃ a xs, [v] = [V.ref a] ∧ (SqL X.K H1 a xs ∧ R (Ite X.K a) H1 ∨ SqT X.K H1 a xs ∧ R (IteT X.K a) H1) := fun p => by
    unfold enumS at p
    split at p
    · rename_i ds e
      have hv : ∃ a, v = .ref a := by
        cases rx <;> first | exact ⟨_, rfl⟩ | cases e
      obtain ⟨a, rfl⟩ := hv
      obtain ⟨xs, hq, rl⟩ := lstD_rep w rx e
      exact ⟨a, xs, rfl, .inl ⟨hq, p _ _ _ (Grow.refl _ _) w (src_enum rx)⟩⟩
    · exact p.elim
  unfold enumU at p
  cases rx with
  | @tup ds a xs t rl => exact ⟨a, xs, rfl, .inr ⟨t.sq, p _ _ _ (Grow.refl _ _) w (src_enumT t rl)⟩⟩
  | _ => exact old p
end
@[simp] theorem enumU_tup {h : DH} {ds : List D} : enumU (.tup ds) h = .ok ⟨pairs ds, fun _ => True⟩ h := (rfl)
@[simp] theorem enumU_rol {h : DH} {ds : List D} : enumU (.rol ds) h = .ok ⟨pairs ds, fun _ => True⟩ h := enumS_rol
theorem enumU_ref {h : DH} {n : Nat} {ds : List D} (e : h[n]? = some (.lst ds)) : enumU (.ref n) h = .ok ⟨pairs ds, fun h' => h'[n]? = some (.lst ds)⟩ h := enumS_ref e
end DL

/-! The data layer: methods of tuples, list(range(..)), several handlers, keyword-only parameters. -/
namespace DL
open PySem PySem.Spec L2
open PyProof.Rows hiding St

/-! ### t.index(x), t.count(x) -/
def rTIndex (K : PySem.W.Frag) : V → List V → Hp → VK → Prop := fun x xs H Q => ∃ p ys y j z, x = .ref p ∧ xs = [y] ∧ SqT K H p ys ∧ flatV y = true ∧ ys.all flatV = true ∧ ys[j]? = some z ∧ eqV z y = true ∧
  (∀ (m : Nat) (z' : V), m < j → ys[m]? = some z' → eqV z' y = false) ∧ Q (.int (j : Nat)) H
theorem mt_tindex {X : Cx} : MtR X "tuple.index" (rTIndex X.K) := by
  intro pins s σ H x xs v us Q I rx rs h
  obtain ⟨p, ys, y, j, z, rfl, rfl, hq, fy, fys, hz, hzj, hno, q⟩ := h
  cases rx
  cases rs with
  | cons ry rt =>
    rename_i uy ut
    cases rt
    obtain ⟨its, r, pl, hlen⟩ := I.tuple hq
    obtain ⟨⟨cls, dd, dt, sl⟩, ho, hc, n, hd⟩ := pl
    simp only at hc hd
    subst hc
    subst hd
    obtain ⟨u, hu, ru⟩ := r.get hz
    obtain ⟨hjl, hje⟩ := List.getElem?_eq_some_iff.mp hu
    have hvl := r.length
    have hj : j < its.toArray.size := by simpa using hjl
    refine call_meets PySem.F.slot_tuple_index ⟨_, ho, rfl⟩ PySem.F.entry_tuple_index (PySem.F.args_tuple_index_2 _ _) (_root_.TI.tuple_indexAt p its.toArray n dd sl uy (eqU y) j hj ?_ ?_)
      ⟨ho, fun w hw => mem_eqAt ry fy r fys w (by simpa using hw), ⟨.int (j : Nat), H, I.tok _, ⟨_, rfl⟩, q⟩⟩
    · have e1 : its.toArray[j] = u := by simpa using hje
      rw [e1, eqU_of ru (flat_at fys hz)]
      exact hzj
    · intro m hm hmj
      have hml : m < its.length := by simpa using hm
      have hmy : m < ys.length := by omega
      have hy' : ys[m]? = some ys[m] := List.getElem?_eq_getElem hmy
      obtain ⟨u2, hu2, ru2⟩ := r.get hy'
      obtain ⟨_, hme⟩ := List.getElem?_eq_some_iff.mp hu2
      have e1 : its.toArray[m] = u2 := by simpa using hme
      rw [e1, eqU_of ru2 (flat_at fys hy')]
      exact hno m _ hmj hy'
section
variable {K : PySem.W.Frag} {mg : Str → Option Value}
def mTIndex : D → List D → DH → Res D
  | .tup ds, [y], h => if flatD y = true ∧ ds.all flatD = true then (match ds.findIdx? (fun d => eqF d y) with
      | some j => .ok (.int (j : Nat)) h
      | none => .bad) else .bad
  | _, _, _ => .bad
theorem ms_tindex : MetS K mg (rTIndex K) mTIndex := by
  intro ρ dh H x v ds vs Q W τ w rx rs p
  unfold mTIndex at p
  split at p
  · rename_i es y
    obtain ⟨u, rfl, ry⟩ := rs.inv1
    cases rx with
    | tup t r =>
      split at p
      · rename_i hf
        split at p
        · rename_i j ej
          obtain ⟨hl, h1, h2⟩ := List.findIdx?_eq_some_iff_getElem.mp ej
          obtain ⟨z, hz, rz⟩ := r.get (List.getElem?_eq_getElem hl)
          have fz : flatD es[j] = true := List.all_eq_true.mp hf.2 _ (List.getElem_mem hl)
          refine ⟨_, _, u, j, z, rfl, rfl, t.sq, flat_of ry hf.1, flats_of r hf.2, hz, by rw [eqF_rep rz ry fz hf.1]; exact h1, fun m z' hm hz' => ?_, same_val w (.int _) p⟩
          obtain ⟨d, hd, rd⟩ := r.get' hz'
          obtain ⟨hml, rfl⟩ := List.getElem?_eq_some_iff.mp hd
          rw [eqF_rep rd ry (List.all_eq_true.mp hf.2 _ (List.getElem_mem hml)) hf.1]
          have := h2 m hm
          simpa using this
        · exact p.elim
      · exact p.elim
  · exact p.elim
end
/-- a method of a tuple -/
def dTM (m : D → List D → DH → Res D) (fo : FE) (g : FA) : FE := fun σ h => (fo σ h).bind fun x h1 => match x with
  | .tup ds => (g σ h1).bind fun xs h2 => m (.tup ds) xs h2
  | _ => .bad
section
variable {X : Cx} {W : WX} {o e : Expr} {es : List Expr} {fo : FE} {g : FA} {name : Str} {apos cpos : Pos} {id : String} {r : V → List V → Hp → VK → Prop} {m : D → List D → DH → Res D}
theorem de_tm (hm : MtR X id r) (ms : MetS X.K X.mg r m) (slot : Slot "tuple" name id) (hty : typeOf (.builtin id) = pure (.type "method_descriptor")) (ho : PE X o (rE X.K X.mg W fo)) (ha : PA X (e :: es) (rA X.K X.mg W g))
    (hbase : attributeBase o name X.env (eval o X.env) = eval o X.env := by rfl)
    (hfew : ((backTo cpos (starEach (e :: es) X.env)).all (fun x => !x.1) && (backToKw cpos (keywordEach [] X.env)).all (fun x => x.1.isSome) && decide ((e :: es).length + ([] : List Keyword).length + (if ([] : List Keyword).isEmpty then 0 else 1) < 30)) = true := by rfl)
    (hline : (apos.endLine == cpos.line) = true := by rfl) (hs : starEach (e :: es) X.env = (false, eval e X.env) :: starEach es X.env := by rfl) (hplain : (backTo cpos (starEach es X.env)).any (·.1) = false := by rfl) :
    PE X (.Call (.Attribute o name apos) (e :: es) [] cpos) (rE X.K X.mg W (dTM m fo g)) := by
  refine ⟨fun pins s σ H Q I h => ?_⟩
  obtain ⟨σd, dh, ρ, w, sσ, p⟩ := h
  refine wpAny_Call_method_late hbase hfew hline rfl (thn (ho.run pins s σ H _ I ⟨σd, dh, ρ, w, sσ, Pst.bind (R := Rep X.K) p⟩) fun v s1 ⟨x, H1, I1, r1, q1⟩ => ?_)
  obtain ⟨d, h1, ρ1, g1, w1, rd1, p1⟩ := q1
  cases rd1 <;> first | exact p1.elim | skip
  rename_i ds a xs t rl
  obtain rfl : v = Value.ref a := r1
  have ob : ∃ ob, s1.heap.get? a = some ob ∧ ob.cls = .type "tuple" ∧ ob.dict = none := by
    rcases t with ⟨o, e, h1, h2⟩ | ⟨o, its, n, h1, h2, h3, _⟩
    · exact ⟨o, (show ObjOk X.prog X.w H1 s1.heap a (.frz o (.tup xs)) from I1.hok a _ e).1, h1, h2⟩
    · exact ⟨o, I1.kIn a o h1, h2, h3⟩
  obtain ⟨ob, e1, e2, e3⟩ := ob
  refine ⟨"tuple", id, PySem.F.plainAttrs_tuple, slot, hty, ⟨ob, e1, e2⟩, fun b eb => by cases eb; exact ⟨ob, e1, e3⟩, ?_⟩
  have s1' : RepS X.K ρ1 H1 σd σ := sσ.grow g1
  have hA := ha.run cpos pins s1 σ H1 (fun vs H2 => r (.ref a) vs H2 Q) I1 ?_
  · rw [hs] at hA ⊢
    refine Calls.callWith_builtin (by show (false || (backTo cpos (starEach es X.env)).any (·.1)) = false; rw [hplain] <;> rfl) (Calls.evalArgs_plain ?_)
    exact thn hA fun us s2 ⟨vs, H2, I2, r2, q2⟩ => hm pins s2 σ H2 (.ref a) vs (.ref a) us Q I2 rfl r2 q2
  · refine ⟨σd, h1, ρ1, w1, s1', ?_⟩
    refine Pst.mono (Pst.bind (R := RepL X.K) (by simpa only using p1)) ?_
    rintro vs H2 ⟨ys, h2, ρ2, g2, w2, rys, p2⟩
    exact ms ρ2 h2 H2 (.tup ds) (.ref a) ys vs Q W σ w2 ((Rep.tup t rl).grow g2) rys p2
end

/-! ### list(range(..)) -/
def dListRg1 (f : FE) : FE := fun σ h => (f σ h).bind fun x h1 => match x with
  | .int n => if 0 ≤ n ∧ n ≤ 1000000 then .ok (.ref h1.length) (h1 ++ [.lst (rngD 0 n.toNat)]) else .bad
  | _ => .bad
theorem rep_rg {K : PySem.W.Frag} {ρ : List Addr} {H : Hp} (n : Nat) : RepL K ρ H (rngD 0 n) (rgV 0 (n : Int)) := by
  have e : rgV 0 (n : Int) = (List.range n).map fun i => V.int (0 + (i : Nat)) := by
    unfold rgV
    congr
    all_goals simp
  rw [e]
  unfold rngD
  generalize List.range n = l
  induction l with
  | nil => exact .nil
  | cons a l ih => exact .cons (.int _) ih
theorem de_listRg1 {X : Cx} {W : WX} {a : Expr} {f : FE} {p q pos pos' : Pos} (hc : X.calm = true) (hm : X.mg "list" = none) (hm2 : X.mg "range" = none) (ha : PE X a (rE X.K X.mg W f)) (hg : Gl X "list" := by rfl) (hg2 : Gl X "range" := by rfl)
    (n1 : starEach [a] X.env = (false, eval a X.env) :: starEach [] X.env := by rfl)
    (n2 : starEach [.Call (.Name "range" q) [a] [] pos'] X.env = (false, eval (.Call (.Name "range" q) [a] [] pos') X.env) :: starEach [] X.env := by rfl) :
    PE X (.Call (.Name "list" p) [.Call (.Name "range" q) [a] [] pos'] [] pos) (rE X.K X.mg W (dListRg1 f)) := by
  refine PE.weak (pe_listRg hc hg hm (prg_1 hg2 hm2 ha n1) n2) fun τ H Q r => ?_
  refine rd.mono (fun v H1 => ?_) (rd_bind (R := Rep X.K) (g := fun x _ h1 => match x with
    | .int n => if 0 ≤ n ∧ n ≤ 1000000 then Res.ok (D.ref h1.length) (h1 ++ [.lst (rngD 0 n.toNat)]) else .bad
    | _ => .bad) r)
  rintro ⟨x, σ, dh, ρ, w, s, rx, p⟩
  cases rx <;> first | exact p.elim | skip
  rename_i n
  simp only at p
  split at p
  · rename_i hn
    have hz : ((n.toNat : Nat) : Int) = n := by omega
    have r : RepL X.K ρ H1 (rngD 0 n.toNat) (rgV 0 n) := by
      have := rep_rg (K := X.K) (ρ := ρ) (H := H1) n.toNat
      rw [hz] at this
      exact this
    exact ⟨n, rfl, .of_le (by omega) (by omega) (by omega) (by omega), fun q hq => new_lst w r p q hq⟩
  · exact p.elim

/-! ### several handlers without names -/
inductive ExmLs (K : PySem.W.Frag) (mg : Str → Option Value) : List (Str × List (Str × Bool) × FS) → Prop
  | nil : ExmLs K mg []
  | cons {x : Str} {l : List (Str × Bool)} {fs : FS} {r : List (Str × List (Str × Bool) × FS)} : ExmL K mg x l → ExmLs K mg r → ExmLs K mg ((x, l, fs) :: r)
/-- the first clause that catches -/
def catchM (e : Exv) (σ1 : DE) (h1 : DH) : List (Str × List (Str × Bool) × FS) → RS
  | [] => .exc e σ1 h1
  | (_, l, fs) :: r => match lookE e.cls l with
    | some true => (fs σ1 h1).seal
    | some false => catchM e σ1 h1 r
    | none => .bad
def dTryM (fb : FS) (cs : List (Str × List (Str × Bool) × FS)) : FS := fun σ h => match fb σ h with
  | .exc e σ1 h1 => catchM e σ1 h1 cs
  | r => r
/-- the clauses as the library reads them -/
inductive HdS (X : Cx) : List ExceptHandler → List (Str × List (Str × Bool) × FS) → List (Value × (Addr → Value → Option Addr → TS)) → Prop
  | nil : HdS X [] [] []
  | cons {x : Str} {D : Addr} {l : List (Str × Bool)} {fs : FS} {hs : List ExceptHandler} {r : List (Str × List (Str × Bool) × FS)} {q : List (Value × (Addr → Value → Option Addr → TS))} {b₀ : Stmt} {suite : List Stmt} {np pos' : Pos} :
      X.mg x = some (.ref D) → ExmL X.K X.mg x l → Gl X x → (x == ("__debug__" : Str)) = false →
      (∀ (a : Addr) (oe : Obj) (pn : List (Addr × Obj)), PSs (X.suite a ((a, oe) :: pn)) (b₀ :: suite) (rS X.K X.mg W0 fs)) → HdS X hs r q →
      HdS X (.ExceptHandler (some (.Name x np)) none (b₀ :: suite) pos' :: hs) ((x, l, fs) :: r) ((.ref D, fun _ _ _ => rS X.K X.mg W0 fs) :: q)
theorem HdS.ok {X : Cx} : ∀ {hs : List ExceptHandler} {r : List (Str × List (Str × Bool) × FS)} {q : List (Value × (Addr → Value → Option Addr → TS))}, HdS X hs r q → HdsOk X hs q
  | _, _, _, .nil => .nil
  | _, _, _, .cons m l g d s t => .cons ⟨g, d, .inl m⟩ (fun a oe cls d pn _ _ => s a oe pn) t.ok
def HdE (X : Cx) (hs : List ExceptHandler) (r : List (Str × List (Str × Bool) × FS)) : Prop := ∃ q, HdS X hs r q
theorem hde_nil {X : Cx} : HdE X [] [] := ⟨_, .nil⟩
theorem hde_cons {X : Cx} {x : Str} {l : List (Str × Bool)} {fs : FS} {hs : List ExceptHandler} {r : List (Str × List (Str × Bool) × FS)} {b₀ : Stmt} {suite : List Stmt} {np pos' : Pos} (hx : ∃ D, X.mg x = some (.ref D)) (hl : ExmL X.K X.mg x l)
    (s : ∀ (a : Addr) (oe : Obj) (pn : List (Addr × Obj)), PSs (X.suite a ((a, oe) :: pn)) (b₀ :: suite) (rS X.K X.mg W0 fs)) (t : HdE X hs r) (g : Gl X x := by rfl) (d : (x == ("__debug__" : Str)) = false := by decide) :
    HdE X (.ExceptHandler (some (.Name x np)) none (b₀ :: suite) pos' :: hs) ((x, l, fs) :: r) := by
  obtain ⟨D, m⟩ := hx
  obtain ⟨q, t⟩ := t
  exact ⟨_, .cons m hl g d s t⟩
theorem catch_many {X : Cx} {W : WX} {D : Ends} {ev : Exv} {σ1 : DE} {h1 : DH} {ρ ρ1 : List Addr} {H H1 : Hp} {τ1 : L2.St} {c : Value} {o : Option Addr} (g1 : Grow ρ H ρ1 H1) (w1 : Wd X.K X.mg ρ1 h1 H1) (s1 : RepS X.K ρ1 H1 σ1 τ1) (re : ExcRep X.K X.mg ρ1 H1 ev c o) :
    ∀ {hs : List ExceptHandler} {r : List (Str × List (Str × Bool) × FS)} {q : List (Value × (Addr → Value → Option Addr → TS))}, HdS X hs r q → PstS X.K X.mg W ρ H D (catchM ev σ1 h1 r) → wMany X.K W D q c o τ1 H1
  | _, _, _, .nil, p => p _ _ _ _ _ g1 w1 s1 re
  | _, _, _, .cons (x := x) (l := l) (fs := fs) m hl g d s t, p => by
    obtain ⟨C, gC, rfl, rf⟩ := id re
    unfold catchM at p
    cases em : lookE ev.cls l with
    | none =>
      simp only [em] at p
      exact p.elim
    | some b =>
      obtain ⟨C2, D2, gC2, gD2, ee⟩ := hl.look em
      rw [gC] at gC2
      rw [m] at gD2
      cases gC2
      cases gD2
      simp only [em] at p
      refine ⟨b, ee, fun hb2 a ha => ?_, fun hb2 => ?_⟩
      · subst hb2
        simp only at p
        exact ⟨σ1, h1, ρ1, w1, s1, (PstS.seal p).grow g1⟩
      · subst hb2
        simp only at p
        exact catch_many g1 w1 s1 re t p
theorem ds_tryM {X : Cx} {W : WX} {body : List Stmt} {h₀ : ExceptHandler} {hds : List ExceptHandler} {pos : Pos} {fb : FS} {cs : List (Str × List (Str × Bool) × FS)} (tk : Takes X W)
    (hb : ∀ (W' : WX) (pn : List (Addr × Obj)) (xe : Value → Shared → Prop), Takes (X.tr pn xe) W' → PassesOwn (model X.prog X.w) X.A X.env xe → PSs (X.tr pn xe) body (rS X.K X.mg W' fb))
    (hh : HdE X (h₀ :: hds) cs) (hs : X.stack = X.env :: X.outer := by rfl) (hf : X.env.frame = some X.env.locals := by rfl) :
    PS X (.Try body (h₀ :: hds) [] [] pos) (rS X.K X.mg W (dTryM fb cs)) := by
  obtain ⟨q, hq⟩ := hh
  refine PS.weak (ps_try_many (tb := fun W' => rS X.K X.mg W' fb) hs hf tk hb hq.ok) fun D τ H h => ?_
  obtain ⟨σ, dh, ρ, w, s, p⟩ := h
  refine ⟨σ, dh, ρ, w, s, ?_⟩
  unfold dTryM at p
  cases e : fb σ dh with
  | exc ev σ1 h1 =>
    simp only [e] at p
    intro ρ1 H1 τ1 c o g1 w1 s1 re
    exact catch_many g1 w1 s1 re hq p
  | nx σ1 h1 => simp only [e] at p; exact p
  | rt d h1 => simp only [e] at p; exact p
  | bk σ1 h1 => simp only [e] at p; exact p
  | ct σ1 h1 => simp only [e] at p; exact p
  | bad => simp only [e] at p; exact p
end DL

/-! The data layer: defs and __init__ with one keyword-only parameter. -/
namespace DL
open PySem PySem.Spec L2
open PyProof.Rows hiding St
/-- the last parameter is keyword-only: left out it is d, else it is named x -/
structure KwB (K : PySem.W.Frag) (fd : FuncData) (ps : List Str) (x : Str) (d : D) : Prop where
  dfl : ∃ v u, absD d = some v ∧ RelV v u ∧ Binds K fd ps [u]
  kw : ∀ n, ps.length = n + 1 → KBn K fd ps n [x] (fun us ws => us ++ ws) (fun vs zs => vs ++ zs)
theorem kwb_of {K : PySem.W.Frag} {x qual : Str} {params : Arguments} {body : List Stmt} {scope : Scope} {f : Addr} {fd : FuncData} {ps : List Str} {y : Str} {d : D} {v : V} (F : FunD K x qual params body scope [] [(y, v)] f fd) (n : Nat) (hv : absD d = some v) (hn : ps.length = n + 1)
    (h : ∀ (D : Addr) (doc pm : Value) (an : Option Addr) (cdv ct : Value) (us ks : List Value), us.length = n → ks.length = 1 → KwChain D (([(y, v)].map (·.1)).zip ks) (bindArgs (PySem.W.fnOf x qual params body scope .none (.ref D) doc pm an cdv ct) ⟨us, []⟩) (ps.zip (us ++ ks)))
    (h2 : ∀ (D : Addr) (doc pm : Value) (an : Option Addr) (cdv ct : Value) (us ws : List Value), us.length = n → ws.length = 1 → bindArgs (PySem.W.fnOf x qual params body scope .none (.ref D) doc pm an cdv ct) ⟨us, [y].zip ws⟩ = pure (ps.zip (us ++ ws))) : KwB K fd ps y d := by
  obtain ⟨ds, r, b⟩ := F.binds0 n (by simp) hn.symm h
  refine ⟨?_, fun m hm => ?_⟩
  · cases r with
    | cons r t =>
      cases t
      exact ⟨v, _, hv, r, b⟩
  · obtain rfl : m = n := by omega
    obtain ⟨mv, k⟩ := F.kbinds0 (ps := ps) m [y] [] (fun us _ ws => us ++ ws) (by simp) (by simp) (fun r1 _ r3 => r1.append r3) (fun D doc pm an cdv ct us mv ws l1 l2 l3 => by
      match mv, l2 with
      | [], _ => exact h2 D doc pm an cdv ct us ws l1 l3)
    exact k
/-! ### calls -/
def HasK (P : Program) (w : World) (K : PySem.W.Frag) (mg : Str → Option Value) (base : Heap) (k : Nat) (x : Str) (ps : List Str) (y : Str) (d : D) (F : Fn) : Prop :=
  ∃ (f : Addr) (fd : FuncData), FnOk P w K mg base (L2.CX P w) k f fd ps (spD K mg F) ∧ mg x = some (.ref f) ∧ PySem.W.keepIn K (.ref f) = true ∧ KwB K fd ps y d
def HasIK (P : Program) (w : World) (K : PySem.W.Frag) (mg : Str → Option Value) (base : Heap) (k : Nat) (c : Str) (ps : List Str) (y : Str) (d : D) (F : Fn) : Prop :=
  ∃ (C f : Addr) (fd : FuncData), mg c = some (.ref C) ∧ Mk K C f ∧ FnOk P w K mg base (L2.CX P w) k f fd ps (spD K mg F) ∧ KwB K fd ps y d
/-- with the default -/
def withD (F : Fn) (d : D) : Fn := fun xs h => F (xs ++ [d]) h
def dCallK (F : Fn) (g : FA) (fv : FE) : FE := fun σ h => (g σ h).bind fun xs h1 => (fv σ h1).bind fun z h2 => F (xs ++ [z]) h2
def dMakeK (c : Str) (F : Fn) (g : FA) (fv : FE) : FE := fun σ h => (g σ h).bind fun xs h1 => (fv σ h1).bind fun z h2 => newD c F (xs ++ [z]) h2
section
variable {X : Cx} {W : WX} {k j : Nat} {e v : Expr} {es : List Expr} {pos p kpos : Pos} {g : FA} {fv : FE} {c x y : Str} {ps : List Str} {F : Fn} {d : D}
theorem spD_len {K : PySem.W.Frag} {mg : Str → Option Value} {n : Nat} {F : Fn} (h : ∀ ds dh, ds.length ≠ n → F ds dh = .bad) : True := trivial
theorem run_fnD {f : Addr} {fd : FuncData} {sp : Sp} {E : XK} {pins : List (Addr × Obj)} {σ : L2.St} {H : Hp} {s : Shared} {Q : VK} {us ds : List Value} {vs dvs : List V} (G : FnOk X.prog X.w X.K X.mg X.base (L2.CX X.prog X.w) k f fd ps sp) (hr : Room k X.A) (hb : Binds X.K fd ps ds) (hd : Vals dvs ds)
    (hx : PassesAt (L2.CX X.prog X.w) X σ E) (I : Inv X pins σ H s) (r : Vals vs us) (h : sp (vs ++ dvs) H Q E) : wpAny (model X.prog X.w) X.A (call (.ref f) us) (EP X pins σ Q) X.xe s := by
  have r2 : Vals (vs ++ dvs) (us ++ ds) := r.append hd
  have hl : (us ++ ds).length = ps.length := by rw [← r2.length]; exact G.len _ _ _ _ h
  refine wpAny_call (codeAny_mono (G.run X.A X.stack s H ⟨us, []⟩ (us ++ ds) (vs ++ dvs) Q E hr I.env0 (hb s us I.kIn hl) r2 h) fun r s' hq => ?_)
  cases r with
  | error e => exact hx pins H s e s' I hq
  | ok fl =>
    cases fl with
    | ret u => exact I.after hq
    | next => exact False.elim hq
    | brk => exact False.elim hq
    | cont => exact False.elim hq
theorem run_fnKw {f : Addr} {fd : FuncData} {sp : Sp} {E : XK} {pins : List (Addr × Obj)} {σ : L2.St} {H : Hp} {s : Shared} {Q : VK} {us ws : List Value} {vs zs : List V} {n : Nat} {ks : List Str} (G : FnOk X.prog X.w X.K X.mg X.base (L2.CX X.prog X.w) k f fd ps sp) (hr : Room k X.A) (hb : KBn X.K fd ps n ks (fun us ws => us ++ ws) (fun vs zs => vs ++ zs))
    (hx : PassesAt (L2.CX X.prog X.w) X σ E) (I : Inv X pins σ H s) (r : Vals vs us) (rz : Vals zs ws) (l1 : us.length = n) (l2 : ws.length = ks.length) (h : sp (vs ++ zs) H Q E) : wpAny (model X.prog X.w) X.A (call (.ref f) us (ks.zip ws)) (EP X pins σ Q) X.xe s := by
  have r2 : Vals (vs ++ zs) (us ++ ws) := r.append rz
  refine wpAny_call (codeAny_mono (G.run X.A X.stack s H ⟨us, ks.zip ws⟩ (us ++ ws) (vs ++ zs) Q E hr I.env0 (hb.to s us ws I.kIn l1 l2) r2 h) fun r s' hq => ?_)
  cases r with
  | error e => exact hx pins H s e s' I hq
  | ok fl =>
    cases fl with
    | ret u => exact I.after hq
    | next => exact False.elim hq
    | brk => exact False.elim hq
    | cont => exact False.elim hq
/-- f(e, ..) -/
theorem de_hasD (h : HasK X.prog X.w X.K X.mg X.base k x ps y d F) (hr : Room j X.A) (hk : k ≤ j) (tk : Takes X W) (ha : PA X (e :: es) (rA X.K X.mg W g)) (hg : Gl X x := by rfl)
    (hdb : (x == ("__debug__" : Str)) = false := by decide) (he : starEach (e :: es) X.env = (false, eval e X.env) :: starEach es X.env := by rfl) (hpl : (backTo pos (starEach es X.env)).any (·.1) = false := by rfl) :
    PE X (.Call (.Name x p) (e :: es) [] pos) (rE X.K X.mg W (dCall (withD F d) g)) := by
  obtain ⟨f, fd, G, hm, hkp, hb⟩ := h
  obtain ⟨v, u, hv, ru, hb⟩ := hb.dfl
  refine ⟨fun pins s σ H Q I r => ?_⟩
  refine wpAny_Call_Name_kw (ld_glob I hg hm ?_ hdb)
  refine PySem.W.callWith_K (h₀ := X.base) I.ok.mod.kin hkp (thn (ha.run pos pins s σ H _ I (rd_bind (R := RepL X.K) (R2 := Rep X.K) (g := fun xs _ h1 => withD F d xs h1) r)) fun us s1 ⟨vs, H1, I1, r1, q⟩ => ⟨I1.kIn, ?_⟩) he hpl
  obtain ⟨xs, σ1, dh, ρ, w, sσ, rx, p⟩ := q
  refine run_fnD G (hr.mono hk) hb (.cons ru .nil) (passAt tk σ) I1 r1 ?_
  have r3 : RepL X.K ρ H1 (xs ++ [d]) (vs ++ [v]) := rx.append (.one (absD_rep hv _ _))
  refine ⟨xs ++ [d], dh, ρ, w, r3, ⟨_, r3.length, rfl⟩, ?_⟩
  unfold withD at p
  cases e : F (xs ++ [d]) dh with
  | ok a h => rw [e] at p; exact p
  | exc z h => rw [e] at p; exact p
  | bad => rw [e] at p; exact p
/-- f(e, .., y = v) -/
theorem de_hasKw (h : HasK X.prog X.w X.K X.mg X.base k x ps y d F) (hn : ps.length = (e :: es).length + 1) (hr : Room j X.A) (hk : k ≤ j) (tk : Takes X W) (ha : PA X (e :: es) (rA X.K X.mg W g)) (hv : PE X v (rE X.K X.mg W fv)) (hga : ∀ σ h xs h1, g σ h = .ok xs h1 → xs.length = (e :: es).length) (hg : Gl X x := by rfl)
    (hdb : (x == ("__debug__" : Str)) = false := by decide) (hall : (backToKw pos (keywordEach [⟨some y, v, kpos⟩] X.env)).all (·.1.isSome) = true := by rfl) (hks : (backToKw pos (keywordEach [⟨some y, v, kpos⟩] X.env)).filterMap (·.1) = [y] := by rfl)
    (he : starEach (e :: es) X.env = (false, eval e X.env) :: starEach es X.env := by rfl) (hpl : ((backTo pos (starEach (e :: es) X.env)).any (·.1) || (backToKw pos (keywordEach [⟨some y, v, kpos⟩] X.env)).any (·.1.isNone)) = false := by rfl) :
    PE X (.Call (.Name x p) (e :: es) [⟨some y, v, kpos⟩] pos) (rE X.K X.mg W (dCallK F g fv)) := by
  obtain ⟨f, fd, G, hm, hkp, hb⟩ := h
  have hb := hb.kw _ hn
  refine ⟨fun pins s σ H Q I r => ?_⟩
  obtain ⟨σd, dh, ρ, w, sσ, p⟩ := r
  refine wpAny_Call_Name_kw (ld_glob I hg hm ?_ hdb)
  have p' : Pst X.K X.mg (RepL X.K) W σ ρ H (fun vs H1 => ∃ xs h1 ρ1, g σd dh = .ok xs h1 ∧ Grow ρ H ρ1 H1 ∧ Wd X.K X.mg ρ1 h1 H1 ∧ RepL X.K ρ1 H1 xs vs ∧ Pst X.K X.mg (Rep X.K) W σ ρ1 H1 Q ((fv σd h1).bind fun z h2 => F (xs ++ [z]) h2)) (g σd dh) := by
    unfold dCallK at p
    cases e : g σd dh with
    | ok xs h1 => rw [e] at p; exact fun ρ' H' b g' w' r' => ⟨xs, h1, ρ', rfl, g', w', r', Pst.grow g' p⟩
    | exc z h => rw [e] at p; exact p
    | bad => rw [e] at p; exact p
  refine PySem.W.callWith_KW (h₀ := X.base) I.ok.mod.kin hkp hall (thn (ha.run pos pins s σ H _ I ⟨σd, dh, ρ, w, sσ, p'⟩) fun us s1 ⟨vs, H1, I1, r1, q⟩ => ?_) hpl he
  obtain ⟨xs, h1, ρ1, eg, g1, w1, rxs, p1⟩ := q
  refine thn ((pk_cons (nm := some y) (kpos := kpos) hv pk_nil).run pos pins s1 σ H1 (fun zs H2 => ∃ z u h2 ρ2, zs = [u] ∧ Grow ρ1 H1 ρ2 H2 ∧ Wd X.K X.mg ρ2 h2 H2 ∧ Rep X.K ρ2 H2 z u ∧ Pst X.K X.mg (Rep X.K) W σ ρ2 H2 Q (F (xs ++ [z]) h2)) I1 ⟨σd, h1, ρ1, w1, sσ.grow g1, ?_⟩) fun ws s2 ⟨zs, H2, I2, rz, q2⟩ => ⟨I2.kIn, ?_⟩
  · refine Pst.mono (Pst.bind (R := Rep X.K) p1) ?_
    rintro u H2 ⟨z, h2, ρ2, g2, w2, rz, p2⟩
    exact ⟨z, u, h2, ρ2, rfl, g2, w2, rz, p2⟩
  · obtain ⟨z, u, h2, ρ2, rfl, g2, w2, rzz, p2⟩ := q2
    rw [hks]
    have ll : us.length = (e :: es).length := by rw [← r1.length, ← rxs.length]; exact hga _ _ _ _ eg
    refine run_fnKw G (hr.mono hk) hb (passAt tk σ) I2 r1 rz ll (by rw [← rz.length]; rfl) ?_
    have r3 : RepL X.K ρ2 H2 (xs ++ [z]) (vs ++ [u]) := (rxs.grow g2).append (.one rzz)
    refine ⟨xs ++ [z], h2, ρ2, w2, r3, ⟨_, r3.length, rfl⟩, ?_⟩
    cases e : F (xs ++ [z]) h2 with
    | ok a h => rw [e] at p2; exact p2
    | exc z h => rw [e] at p2; exact p2
    | bad => rw [e] at p2; exact p2
end
/-! ### making -/
section
variable {X : Cx} {W : WX} {k j : Nat} {e v : Expr} {es : List Expr} {pos p kpos : Pos} {g : FA} {fv : FE} {c x y : Str} {ps : List Str} {F : Fn} {d : D}
/-- the rest of a making: the arguments are there -/
theorem run_makeB {C f : Addr} {fd : FuncData} {pins : List (Addr × Obj)} {σ : L2.St} {H : Hp} {s : Shared} {Q : VK} {us ws all : List Value} {avs : List V} {kwn : List Str} {xs : List D} {ρ : List Addr} {dh : DH} (tk : Takes X W) (gC : X.mg x = some (.ref C)) (M : Mk X.K C f) (G : FnOk X.prog X.w X.K X.mg X.base (L2.CX X.prog X.w) k f fd ps (spD X.K X.mg F)) (hr : Room (k + 1) X.A)
    (I : Inv X pins σ H s) (w : Wd X.K X.mg ρ dh H) (rx : RepL X.K ρ H xs avs) (r : Vals avs all)
    (hb : ∀ s' : Shared, X.K.In s'.heap → ∀ o, (Value.ref o :: all).length = ps.length → BindsTo s' fd ⟨Value.ref o :: us, kwn.zip ws⟩ (ps.zip (Value.ref o :: all)))
    (p : Pst X.K X.mg (Rep X.K) W σ ρ H Q (newD x F xs dh)) : wpAny (model X.prog X.w) X.A (call (.ref C) us (kwn.zip ws)) (EP X pins σ Q) X.xe s := by
  have key : ∀ y dx, H y = none → H dx = none → dx ≠ y → spD X.K X.mg F (.ref y :: avs) (upd (upd H dx (.own y)) y (.ins C dx [])) (fun v H2 => v = .non ∧ Q (.ref y) H2) (WE W σ) := fun y dx hy hd hne => by
    have g1 : Grow ρ H ρ (upd H dx (.own y)) := grow_upd hd
    have hy2 : upd H dx (.own y) y = none := by rw [upd_ne (Ne.symm hne)]; exact hy
    have w1 : Wd X.K X.mg ρ dh (upd H dx (.own y)) := w.side hd
    have g2 : Grow ρ (upd H dx (.own y)) (ρ ++ [y]) (upd (upd H dx (.own y)) y (.ins C dx [])) := grow_cell hy2
    have w2 : Wd X.K X.mg (ρ ++ [y]) (dh ++ [.obj x []]) (upd (upd H dx (.own y)) y (.ins C dx [])) := w1.new hy2 ⟨C, dx, [], gC, upd_same, .nil⟩
    have at_ : (ρ ++ [y])[dh.length]? = some y := new_at w1 y
    refine ⟨.ref dh.length :: xs, dh ++ [.obj x []], ρ ++ [y], w2, .cons (.ref at_) (rx.grow (g1.trans g2)), ⟨(V.ref y :: avs).length, by rw [List.length_cons, rx.length]; rfl, rfl⟩, ?_⟩
    have p2 := p.grow (g1.trans g2)
    unfold newD at p2
    cases e1 : F (.ref dh.length :: xs) (dh ++ [.obj x []]) with
    | ok d h2 =>
      rw [e1] at p2
      cases d <;> first | exact p2.elim | skip
      intro ρ3 H3 v g3 w3 rv
      cases rv
      exact ⟨rfl, p2 _ _ _ g3 w3 (.ref (g3.at_ at_))⟩
    | exc z h2 =>
      rw [e1] at p2
      exact p2
    | bad =>
      rw [e1] at p2
      exact p2
  have hx := passAt (X := X) tk σ
  have hq := key (s.heap.objs.size + 1) s.heap.objs.size (I.hok.fresh (Nat.le_succ _)) (I.hok.fresh (Nat.le_refl _)) (Nat.ne_of_lt (Nat.lt_succ_self _))
  have I2 := Inv.made (C := C) I
  have r2 : Vals (V.ref (s.heap.objs.size + 1) :: avs) (Value.ref (s.heap.objs.size + 1) :: all) := .cons rfl r
  have hl : (Value.ref (s.heap.objs.size + 1) :: all).length = ps.length := by
    have e := r2.length
    rw [G.len _ _ _ _ hq] at e
    exact e.symm
  have bb := hb (⟨((s.heap.push PySem.W.emptyDict).push (PySem.W.instObj C s.heap.objs.size)), s.gens, s.drawn, s.toks, s.os⟩ : Shared) I2.kIn (s.heap.objs.size + 1) hl
  refine wpAny_call (make_map (f := f) I.kIn M.makes M.init (beq_iff_eq.mp M.fn) (codeAny_mono (G.run _ X.stack _ _ ⟨Value.ref (s.heap.objs.size + 1) :: us, kwn.zip ws⟩ (Value.ref (s.heap.objs.size + 1) :: all) _ _ _ (hr.make C us (kwn.zip ws))
    (I2.env0.make C us (kwn.zip ws)) bb r2 hq) fun r s' hq' => ?_))
  cases r with
  | error e => exact hx pins _ _ e s' I2 hq'
  | ok fl =>
    cases fl with
    | ret u =>
      obtain ⟨v, H', I3, rv, ev, q3⟩ := I2.after hq'
      subst ev
      exact ⟨rv, ⟨V.ref (s.heap.objs.size + 1), H', I3, rfl, q3⟩⟩
    | next => exact False.elim hq'
    | brk => exact False.elim hq'
    | cont => exact False.elim hq'
/-- C(e, ..), the default behind -/
def dMakeD (c : Str) (F : Fn) (d : D) (g : FA) : FE := fun σ h => (g σ h).bind fun xs h1 => newD c F (xs ++ [d]) h1
theorem de_makeD (h : HasIK X.prog X.w X.K X.mg X.base k x ps y d F) (hr : Room j X.A) (hk : k + 1 ≤ j) (tk : Takes X W) (ha : PA X (e :: es) (rA X.K X.mg W g)) (hg : Gl X x := by rfl)
    (hdb : (x == ("__debug__" : Str)) = false := by decide) (he : starEach (e :: es) X.env = (false, eval e X.env) :: starEach es X.env := by rfl) (hpl : (backTo pos (starEach es X.env)).any (·.1) = false := by rfl) :
    PE X (.Call (.Name x p) (e :: es) [] pos) (rE X.K X.mg W (dMakeD x F d g)) := by
  obtain ⟨C, f, fd, gC, M, G, hb⟩ := h
  obtain ⟨v, u, hv, ru, hb⟩ := hb.dfl
  refine ⟨fun pins s σ H Q I r => ?_⟩
  refine wpAny_Call_Name_kw (ld_glob I hg gC ?_ hdb)
  refine PySem.W.callWith_K (h₀ := X.base) I.ok.mod.kin M.kp (thn (ha.run pos pins s σ H _ I (rd_bind (R := RepL X.K) (R2 := Rep X.K) (g := fun xs _ h1 => newD x F (xs ++ [d]) h1) r)) fun us s1 ⟨vs, H1, I1, r1, q⟩ => ⟨I1.kIn, ?_⟩) he hpl
  obtain ⟨xs, σ1, dh, ρ, w, sσ, rx, p⟩ := q
  have r3 : RepL X.K ρ H1 (xs ++ [d]) (vs ++ [v]) := rx.append (.one (absD_rep hv _ _))
  have r4 : Vals (vs ++ [v]) (us ++ [u]) := r1.append (.cons ru .nil)
  have go := run_makeB (kwn := []) (ws := []) (us := us) tk gC M G (hr.mono hk) I1 w r3 r4 (fun s' k o hl => hb s' (Value.ref o :: us) k hl) p
  exact go
theorem de_makeKw (h : HasIK X.prog X.w X.K X.mg X.base k x ps y d F) (hn : ps.length = (e :: es).length + 2) (hr : Room j X.A) (hk : k + 1 ≤ j) (tk : Takes X W) (ha : PA X (e :: es) (rA X.K X.mg W g)) (hv : PE X v (rE X.K X.mg W fv)) (hga : ∀ σ h xs h1, g σ h = .ok xs h1 → xs.length = (e :: es).length) (hg : Gl X x := by rfl)
    (hdb : (x == ("__debug__" : Str)) = false := by decide) (hall : (backToKw pos (keywordEach [⟨some y, v, kpos⟩] X.env)).all (·.1.isSome) = true := by rfl) (hks : (backToKw pos (keywordEach [⟨some y, v, kpos⟩] X.env)).filterMap (·.1) = [y] := by rfl)
    (he : starEach (e :: es) X.env = (false, eval e X.env) :: starEach es X.env := by rfl) (hpl : ((backTo pos (starEach (e :: es) X.env)).any (·.1) || (backToKw pos (keywordEach [⟨some y, v, kpos⟩] X.env)).any (·.1.isNone)) = false := by rfl) :
    PE X (.Call (.Name x p) (e :: es) [⟨some y, v, kpos⟩] pos) (rE X.K X.mg W (dMakeK x F g fv)) := by
  obtain ⟨C, f, fd, gC, M, G, hb⟩ := h
  have hb := hb.kw _ hn
  refine ⟨fun pins s σ H Q I r => ?_⟩
  obtain ⟨σd, dh, ρ, w, sσ, p⟩ := r
  refine wpAny_Call_Name_kw (ld_glob I hg gC ?_ hdb)
  have p' : Pst X.K X.mg (RepL X.K) W σ ρ H (fun vs H1 => ∃ xs h1 ρ1, g σd dh = .ok xs h1 ∧ Grow ρ H ρ1 H1 ∧ Wd X.K X.mg ρ1 h1 H1 ∧ RepL X.K ρ1 H1 xs vs ∧ Pst X.K X.mg (Rep X.K) W σ ρ1 H1 Q ((fv σd h1).bind fun z h2 => newD x F (xs ++ [z]) h2)) (g σd dh) := by
    unfold dMakeK at p
    cases e : g σd dh with
    | ok xs h1 => rw [e] at p; exact fun ρ' H' b g' w' r' => ⟨xs, h1, ρ', rfl, g', w', r', Pst.grow g' p⟩
    | exc z h => rw [e] at p; exact p
    | bad => rw [e] at p; exact p
  refine PySem.W.callWith_KW (h₀ := X.base) I.ok.mod.kin M.kp hall (thn (ha.run pos pins s σ H _ I ⟨σd, dh, ρ, w, sσ, p'⟩) fun us s1 ⟨vs, H1, I1, r1, q⟩ => ?_) hpl he
  obtain ⟨xs, h1, ρ1, eg, g1, w1, rxs, p1⟩ := q
  refine thn ((pk_cons (nm := some y) (kpos := kpos) hv pk_nil).run pos pins s1 σ H1 (fun zs H2 => ∃ z u h2 ρ2, zs = [u] ∧ Grow ρ1 H1 ρ2 H2 ∧ Wd X.K X.mg ρ2 h2 H2 ∧ Rep X.K ρ2 H2 z u ∧ Pst X.K X.mg (Rep X.K) W σ ρ2 H2 Q (newD x F (xs ++ [z]) h2)) I1 ⟨σd, h1, ρ1, w1, sσ.grow g1, ?_⟩) fun ws s2 ⟨zs, H2, I2, rz, q2⟩ => ⟨I2.kIn, ?_⟩
  · refine Pst.mono (Pst.bind (R := Rep X.K) p1) ?_
    rintro u H2 ⟨z, h2, ρ2, g2, w2, rz, p2⟩
    exact ⟨z, u, h2, ρ2, rfl, g2, w2, rz, p2⟩
  · obtain ⟨z, u, h2, ρ2, rfl, g2, w2, rzz, p2⟩ := q2
    rw [hks]
    have ll : us.length = (e :: es).length := by rw [← r1.length, ← rxs.length]; exact hga _ _ _ _ eg
    have r3 : RepL X.K ρ2 H2 (xs ++ [z]) (vs ++ [u]) := (rxs.grow g2).append (.one rzz)
    exact run_makeB (us := us) (ws := ws) (kwn := [y]) tk gC M G (hr.mono hk) I2 w2 r3 (r1.append rz) (fun s' k o hl => hb.to s' (Value.ref o :: us) ws k (by rw [List.length_cons, ll]) (by rw [← rz.length]; rfl)) p2
end
/-! ### how the end hands them over -/
section
variable {P : Program} {w : World} {K : PySem.W.Frag} {mg : Str → Option Value} {base : Heap}
def HereK (K : PySem.W.Frag) (mg : Str → Option Value) (x : Str) (st : Stmt) (ps : List Str) (y : Str) (d : D) : Prop := ∃ (f : Addr) (fd : FuncData), Fun K x x st f fd ∧ mg x = some (.ref f) ∧ KwB K fd ps y d
def HereIK (K : PySem.W.Frag) (mg : Str → Option Value) (c qual : Str) (st : Stmt) (ps : List Str) (y : Str) (d : D) : Prop := ∃ (C f : Addr) (fd : FuncData), mg c = some (.ref C) ∧ Mk K C f ∧ Fun K "__init__" qual st f fd ∧ KwB K fd ps y d
theorem hasK_of {x : Str} {st : Stmt} {ps : List Str} {y : Str} {d : D} {k : Nat} {F : Fn} (h : HereK K mg x st ps y d) (ok : ∀ f fd, Fun K x x st f fd → FnOk P w K mg base (L2.CX P w) k f fd ps (spD K mg F)) : HasK P w K mg base k x ps y d F := by
  obtain ⟨f, fd, hF, hm, hb⟩ := h
  exact ⟨f, fd, ok f fd hF, hm, hF.kp, hb⟩
theorem hasIK_of {c qual : Str} {st : Stmt} {ps : List Str} {y : Str} {d : D} {k : Nat} {F : Fn} (h : HereIK K mg c qual st ps y d) (ok : ∀ f fd, Fun K "__init__" qual st f fd → FnOk P w K mg base (L2.CX P w) k f fd ps (spD K mg F)) : HasIK P w K mg base k c ps y d F := by
  obtain ⟨C, f, fd, gC, M, hF, hb⟩ := h
  exact ⟨C, f, fd, gC, M, ok f fd hF, hb⟩
theorem HasK.trim {k : Nat} {x : Str} {ps : List Str} {y : Str} {d : D} {F G : Fn} (h : HasK P w K mg base k x ps y d F) (e : ∀ ds dh, Trim dh (F ds dh) (G ds dh)) : HasK P w K mg base k x ps y d G := by
  obtain ⟨f, fd, Gk, hm, hkp, hb⟩ := h
  exact ⟨f, fd, Gk.imp fun vs H Q E ⟨ds, dh, ρ, w, r, n, p⟩ => ⟨ds, dh, ρ, w, r, n, (e ds dh).pst w p⟩, hm, hkp, hb⟩
theorem HasIK.trim {k : Nat} {c : Str} {ps : List Str} {y : Str} {d : D} {F G : Fn} (h : HasIK P w K mg base k c ps y d F) (e : ∀ ds dh, Trim dh (F ds dh) (G ds dh)) : HasIK P w K mg base k c ps y d G := by
  obtain ⟨C, f, fd, gC, M, Gk, hb⟩ := h
  exact ⟨C, f, fd, gC, M, Gk.imp fun vs H Q E ⟨ds, dh, ρ, w, r, n, p⟩ => ⟨ds, dh, ρ, w, r, n, (e ds dh).pst w p⟩, hb⟩
theorem HasM.trim {k : Nat} {c m : Str} {ps : List Str} {F G : Fn} (h : HasM P w K mg base k c m ps F) (e : ∀ ds dh, Trim dh (F ds dh) (G ds dh)) : HasM P w K mg base k c m ps G := by
  obtain ⟨C, f, fd, gC, kC, M, Gk, hb⟩ := h
  exact ⟨C, f, fd, gC, kC, M, Gk.imp fun vs H Q E ⟨ds, dh, ρ, w, r, n, p⟩ => ⟨ds, dh, ρ, w, r, n, (e ds dh).pst w p⟩, hb⟩
end
/-- how many arguments a written list of arguments gives -/
theorem ga_nil : ∀ σ h xs h1, dNil σ h = .ok xs h1 → xs.length = 0 := fun σ h xs h1 e => by cases e; rfl
theorem ga_cons {f : FE} {g : FA} {n : Nat} (t : ∀ σ h xs h1, g σ h = .ok xs h1 → xs.length = n) : ∀ σ h xs h1, dCons f g σ h = .ok xs h1 → xs.length = n + 1 := fun σ h xs h1 e => by
  unfold dCons at e
  cases e1 : f σ h with
  | ok x h2 =>
    rw [e1] at e
    simp only [Res.bind] at e
    cases e2 : g σ h2 with
    | ok ys h3 =>
      rw [e2] at e
      simp only [Res.bind] at e
      cases e
      rw [List.length_cons, t _ _ _ _ e2]
    | exc z h3 => rw [e2] at e; cases e
    | bad => rw [e2] at e; cases e
  | exc z h2 => rw [e1] at e; cases e
  | bad => rw [e1] at e; cases e
end DL

/-! The data layer: a def's garbage is forgotten by rule (trimF); loops and comprehensions by place. -/
namespace DL
open PySem PySem.Spec L2
open PyProof.Rows hiding St

/-! ### trimF -/
def refN : D → Option Nat
  | .ref k => some k
  | _ => none
theorem refN_some {d : D} {k : Nat} (e : refN d = some k) : d = .ref k := by
  cases d <;> first | (cases e; rfl) | cases e
open Classical in
noncomputable def trimO (dh : DH) (d : D) (h : DH) : Option Nat → Res D
  | some k => if Kept dh (h.take dh.length) then (if k < dh.length then .ok d (h.take dh.length) else match h[k]? with
      | some c => if lowC dh.length c = true then .ok (.ref dh.length) (h.take dh.length ++ [c]) else .ok d h
      | none => .ok d h) else .ok d h
  | none => if Kept dh (h.take dh.length) ∧ lowD dh.length d = true then .ok d (h.take dh.length) else .ok d h
open Classical in
noncomputable def trimE (dh : DH) (e : Exv) (h : DH) : Res D := if Kept dh (h.take dh.length) ∧ lowDs dh.length (e.fs.map (·.2)) = true then .exc e (h.take dh.length) else .exc e h
noncomputable def trimR (dh : DH) : Res D → Res D
  | .ok d h => trimO dh d h (refN d)
  | .exc e h => trimE dh e h
  | .bad => .bad
noncomputable def trimF (F : Fn) : Fn := fun ds dh => trimR dh (F ds dh)
theorem trimR_ok (dh : DH) (r : Res D) : Trim dh r (trimR dh r) := by
  have val : ∀ (d : D) (h : DH), Kept dh (h.take dh.length) → lowD dh.length d = true → Trim dh (.ok d h) (.ok d (h.take dh.length)) := fun d h k c => by
    have := Trim.val (g := h.drop dh.length) c k
    rw [List.take_append_drop] at this
    exact this
  cases r with
  | ok d h =>
    show Trim dh (.ok d h) (trimO dh d h (refN d))
    cases e : refN d with
    | some k =>
      have := refN_some e
      subst this
      unfold trimO
      simp only
      split
      · rename_i kp
        split
        · rename_i hl
          have := Trim.old (g := h.drop dh.length) hl kp
          rw [List.take_append_drop] at this
          exact this
        · rename_i hl
          split
          · rename_i c hc
            split
            · rename_i cl
              have := Trim.lst (k := k) (c := c) (g := h.drop dh.length) (by rw [kp.1]; omega) (by rw [List.take_append_drop]; exact hc) cl kp
              rw [List.take_append_drop, kp.1] at this
              exact this
            · exact .same _
          · exact .same _
      · exact .same _
    | none =>
      unfold trimO
      simp only
      split
      · rename_i kp
        exact val _ _ kp.1 kp.2
      · exact .same _
  | exc e h =>
    show Trim dh (.exc e h) (trimE dh e h)
    unfold trimE
    split
    · rename_i kp
      have := Trim.exc (g := h.drop dh.length) kp.2 kp.1
      rw [List.take_append_drop] at this
      exact this
    · exact .same _
  | bad => exact .same _
theorem trimF_ok (F : Fn) : ∀ ds dh, Trim dh (F ds dh) (trimF F ds dh) := fun ds dh => trimR_ok dh (F ds dh)
theorem HasI.trim {P : Program} {w : World} {K : PySem.W.Frag} {mg : Str → Option Value} {base : Heap} {k : Nat} {c : Str} {ps : List Str} {F G : Fn} (h : HasI P w K mg base k c ps F) (e : ∀ ds dh, Trim dh (F ds dh) (G ds dh)) : HasI P w K mg base k c ps G := by
  obtain ⟨C, f, fd, gC, M, Gk, hb⟩ := h
  exact ⟨C, f, fd, gC, M, Gk.imp fun vs H Q E ⟨ds, dh, ρ, w, r, n, p⟩ => ⟨ds, dh, ρ, w, r, n, (e ds dh).pst w p⟩, hb⟩
section
variable {F : Fn} {ds : List D} {h h2 g : DH} {d : D} {c : Cell} {k i n : Nat} {e : Exv}
theorem take_kept (kp : Kept h h2) : (h2 ++ g).take h.length = h2 := by rw [← kp.1, List.take_left]
theorem trim_low' (e : F ds h = .ok d (h2 ++ g)) (kp : Kept h h2) (hc : lowD h.length d = true) : trimF F ds h = .ok d h2 := by
  unfold trimF
  rw [e]
  show trimO h d (h2 ++ g) (refN d) = _
  cases q : refN d with
  | some k =>
    unfold trimO
    simp only
    rw [take_kept kp, if_pos kp, if_pos (by rw [refN_some q] at hc; simpa [lowD] using hc)]
  | none =>
    unfold trimO
    simp only
    rw [take_kept kp, if_pos ⟨kp, hc⟩]
theorem trim_val' (e : F ds h = .ok d (h2 ++ g)) (kp : Kept h h2) (hc : closed d = true) : trimF F ds h = .ok d h2 := trim_low' e kp (low_cl hc)
theorem trim_low (e : F ds h = .ok d (h ++ g)) (hc : lowD h.length d = true) : trimF F ds h = .ok d h := trim_low' e (Kept.refl h) hc
theorem trim_val (e : F ds h = .ok d (h ++ g)) (hc : closed d = true := by rfl) : trimF F ds h = .ok d h := trim_val' e (Kept.refl h) hc
theorem trim_same (e : F ds h = .ok d h) (hc : closed d = true := by rfl) : trimF F ds h = .ok d h := trim_val (g := []) (by rw [List.append_nil]; exact e) hc
theorem trim_newL' (e : F ds h = .ok (.ref (h.length + i)) (h2 ++ g)) (kp : Kept h h2) (hg : g[i]? = some c) (hc : lowC h.length c = true) : trimF F ds h = .ok (.ref h.length) (h2 ++ [c]) := by
  unfold trimF
  rw [e]
  show trimO h _ (h2 ++ g) (some _) = _
  unfold trimO
  simp only
  rw [take_kept kp, if_pos kp, if_neg (by omega)]
  have : (h2 ++ g)[h.length + i]? = some c := by rw [← kp.1, hp_k]; exact hg
  simp only [this, if_pos hc]
theorem trim_new' (e : F ds h = .ok (.ref (h.length + i)) (h2 ++ g)) (kp : Kept h h2) (hg : g[i]? = some c) (hc : closedC c = true) : trimF F ds h = .ok (.ref h.length) (h2 ++ [c]) := trim_newL' e kp hg (lowC_cl hc)
theorem trim_newL (e : F ds h = .ok (.ref (h.length + i)) (h ++ g)) (hg : g[i]? = some c) (hc : lowC h.length c = true) : trimF F ds h = .ok (.ref h.length) (h ++ [c]) := trim_newL' e (Kept.refl h) hg hc
theorem trim_new (e : F ds h = .ok (.ref (h.length + i)) (h ++ g)) (hg : g[i]? = some c) (hc : closedC c = true) : trimF F ds h = .ok (.ref h.length) (h ++ [c]) := trim_new' e (Kept.refl h) hg hc
theorem trim_new0 (e : F ds h = .ok (.ref h.length) (h ++ c :: g)) (hc : closedC c = true) : trimF F ds h = .ok (.ref h.length) (h ++ [c]) := trim_new (i := 0) e rfl hc
theorem trim_old' (e : F ds h = .ok (.ref k) (h2 ++ g)) (kp : Kept h h2) (hk : k < h.length) : trimF F ds h = .ok (.ref k) h2 := by
  unfold trimF
  rw [e]
  show trimO h _ (h2 ++ g) (some _) = _
  unfold trimO
  simp only
  rw [take_kept kp, if_pos kp, if_pos hk]
theorem trim_exc' {x : Str} (e : F ds h = .exc ⟨x, []⟩ (h2 ++ g)) (kp : Kept h h2) : trimF F ds h = .exc ⟨x, []⟩ h2 := by
  unfold trimF
  rw [e]
  show trimE h ⟨x, []⟩ (h2 ++ g) = _
  unfold trimE
  rw [take_kept kp, if_pos ⟨kp, rfl⟩]
theorem trim_excF' {x f : Str} (e : F ds h = .exc ⟨x, [(f, d)]⟩ (h2 ++ g)) (kp : Kept h h2) (hc : lowD h.length d = true) : trimF F ds h = .exc ⟨x, [(f, d)]⟩ h2 := by
  unfold trimF
  rw [e]
  show trimE h ⟨x, [(f, d)]⟩ (h2 ++ g) = _
  unfold trimE
  rw [take_kept kp, if_pos ⟨kp, by simp [lowDs, hc]⟩]
theorem trim_excF {x f : Str} (e : F ds h = .exc ⟨x, [(f, d)]⟩ (h ++ g)) (hc : lowD h.length d = true) : trimF F ds h = .exc ⟨x, [(f, d)]⟩ h := trim_excF' e (Kept.refl h) hc
theorem trim_exc {x : Str} (e : F ds h = .exc ⟨x, []⟩ (h ++ g)) : trimF F ds h = .exc ⟨x, []⟩ h := trim_exc' e (Kept.refl h)
/-- what cannot be trimmed stays: no closed data -/
theorem trim_stays (e : F ds h = .ok d h2) (hc : lowD h.length d = false) (hr : ∀ k, d ≠ .ref k) : trimF F ds h = .ok d h2 := by
  unfold trimF
  rw [e]
  show trimO h d h2 (refN d) = _
  cases q : refN d with
  | some k => exact absurd (refN_some q) (hr k)
  | none =>
    unfold trimO
    simp only
    rw [if_neg (fun z => by rw [hc] at z; exact absurd z.2 (by decide))]
theorem closeds_map {α : Type} {f : α → D} (hf : ∀ a, closed (f a) = true) : ∀ l : List α, closeds (l.map f) = true
  | [] => rfl
  | a :: l => by rw [List.map_cons, closeds, hf a, closeds_map hf l]; rfl
end

/-! ### loops by place -/
section
variable {α : Type} {keep : DH → Prop} {gg : DG} {b : FS}
/-- what stands after i turns is told by i, but for stale names -/
theorem for_ix {ds : List D} (E : Nat → α → DE) (H : Nat → DH) (hk : ∀ i, i ≤ ds.length → keep (H i))
    (hs : ∀ i d a, ds[i]? = some d → ∃ σ1, gg d (E i a) = some σ1 ∧ ∃ a', b σ1 (H i) = .nx (E (i + 1) a') (H (i + 1)) ∨ b σ1 (H i) = .ct (E (i + 1) a') (H (i + 1))) (a : α) :
    ∃ a', forL keep gg b ds (E 0 a) (H 0) = .nx (E ds.length a') (H ds.length) := by
  obtain ⟨σ', h', e, le, ⟨a', e1⟩, e2⟩ := for_run (keep := keep) (gg := gg) (b := b) (ds := ds) (fun i σ h => i ≤ ds.length ∧ (∃ a, σ = E i a) ∧ h = H i) (fun i σ h ⟨le, _, eh⟩ => by rw [eh]; exact hk i le) (fun i d σ h hd ⟨le, ⟨a, ea⟩, eh⟩ => by
    subst ea eh
    obtain ⟨σ1, h1, a', h2⟩ := hs i d a hd
    have := (List.getElem?_eq_some_iff.mp hd).1
    exact ⟨σ1, h1, E (i + 1) a', H (i + 1), h2, by omega, ⟨a', rfl⟩, rfl⟩) (E 0 a) (H 0) ⟨Nat.zero_le _, ⟨a, rfl⟩, rfl⟩
  exact ⟨a', by rw [e, e1, e2]⟩
/-- a loop that may hand back at a turn: the first turn with W i -/
theorem for_first {ds : List D} (E : Nat → α → DE) (h : DH) (hk : keep h) (P : Nat → Prop) [DecidablePred P] (R : Nat → D)
    (hs : ∀ i d a, ds[i]? = some d → ∃ σ1, gg d (E i a) = some σ1 ∧ (P i → b σ1 h = .rt (R i) h) ∧ (¬ P i → ∃ a', b σ1 h = .nx (E (i + 1) a') h ∨ b σ1 h = .ct (E (i + 1) a') h)) (a : α) :
    (∃ i, i < ds.length ∧ P i ∧ (∀ j, j < i → ¬ P j) ∧ forL keep gg b ds (E 0 a) h = .rt (R i) h) ∨ ((∀ j, j < ds.length → ¬ P j) ∧ ∃ a', forL keep gg b ds (E 0 a) h = .nx (E ds.length a') h) := by
  have key := for_at (keep := keep) (gg := gg) (b := b) (ds := ds) (fun i σ h' => i ≤ ds.length ∧ (∀ j, j < i → ¬ P j) ∧ (∃ a, σ = E i a) ∧ h' = h)
    (fun r => (∃ i, i < ds.length ∧ P i ∧ (∀ j, j < i → ¬ P j) ∧ r = .rt (R i) h) ∨ ((∀ j, j < ds.length → ¬ P j) ∧ ∃ a', r = .nx (E ds.length a') h))
    (fun σ h' ⟨_, no, ⟨a, ea⟩, eh⟩ => by
      subst ea eh
      exact ⟨hk, .inr ⟨no, a, rfl⟩⟩)
    (fun i d σ h' hd ⟨le, no, ⟨a, ea⟩, eh⟩ => by
      subst ea eh
      obtain ⟨σ1, h1, h2, h3⟩ := hs i d a hd
      have il := (List.getElem?_eq_some_iff.mp hd).1
      refine ⟨hk, σ1, h1, ?_⟩
      by_cases p : P i
      · exact .inr (.inl ⟨R i, _, h2 p, .inl ⟨i, il, p, no, rfl⟩⟩)
      · obtain ⟨a', e⟩ := h3 p
        exact .inl ⟨E (i + 1) a', _, e, by omega, fun j hj => by
          by_cases q : j = i
          · rw [q]; exact p
          · exact no j (by omega), ⟨a', rfl⟩, rfl⟩)
  exact key (E 0 a) h ⟨Nat.zero_le _, fun j hj => absurd hj (by omega), ⟨a, rfl⟩, rfl⟩
/-- a comprehension with a test: pd the test, F the item's value -/
theorem lc_filter {t : FT} {e : FE} {σ : DE} {h : DH} (pd : D → Bool) (F : D → D) (hk : ∀ a, keep (h ++ [.lst a])) : ∀ (ds acc : List D), acc.length + ds.length < 16777216 →
    (∀ d ∈ ds, ∃ σ1, gg d σ = some σ1 ∧ (∀ a, t σ1 (h ++ [.lst a]) = .ok (pd d) (h ++ [.lst a])) ∧ (pd d = true → ∀ a, e σ1 (h ++ [.lst a]) = .ok (F d) (h ++ [.lst a]))) →
    lcL keep gg t e σ h.length ds (h ++ [.lst acc]) = .ok (.ref h.length) (h ++ [.lst (acc ++ (ds.filter pd).map F)])
  | [], acc, hl, he => by rw [lcL_nil (hk _), List.filter_nil, List.map_nil, List.append_nil]
  | d :: ds, acc, hl, he => by
    obtain ⟨σ1, h1, h2, h3⟩ := he d (List.mem_cons_self ..)
    rw [List.length_cons] at hl
    rw [lcL_cons (hk _) h1, h2 acc]
    cases p : pd d with
    | true =>
      simp only [nox_ok, Res.bind, if_true, h3 p acc, at_new, set_new]
      rw [if_pos (by omega), lc_filter pd F hk ds (acc ++ [F d]) (by rw [List.length_append, List.length_singleton]; omega) fun x hx => he x (List.mem_cons_of_mem _ hx), List.filter_cons_of_pos p, List.map_cons, List.append_assoc]
      rfl
    | false =>
      simp only [nox_ok, Res.bind]
      rw [if_neg (by decide), lc_filter pd F hk ds acc (by omega) fun x hx => he x (List.mem_cons_of_mem _ hx), List.filter_cons_of_neg (by rw [p]; decide)]
/-- the same over typed items -/
theorem lc_typed {β : Type} {t : FT} {e : FE} {σ : DE} {h : DH} (inj : β → D) (pd : β → Bool) (F : β → D) (hk : ∀ a, keep (h ++ [.lst a])) : ∀ (xs : List β) (acc : List D), acc.length + xs.length < 16777216 →
    (∀ x ∈ xs, ∃ σ1, gg (inj x) σ = some σ1 ∧ (∀ a, t σ1 (h ++ [.lst a]) = .ok (pd x) (h ++ [.lst a])) ∧ (pd x = true → ∀ a, e σ1 (h ++ [.lst a]) = .ok (F x) (h ++ [.lst a]))) →
    lcL keep gg t e σ h.length (xs.map inj) (h ++ [.lst acc]) = .ok (.ref h.length) (h ++ [.lst (acc ++ (xs.filter pd).map F)])
  | [], acc, hl, he => by rw [List.map_nil, lcL_nil (hk _), List.filter_nil, List.map_nil, List.append_nil]
  | x :: xs, acc, hl, he => by
    obtain ⟨σ1, h1, h2, h3⟩ := he x (List.mem_cons_self ..)
    rw [List.length_cons] at hl
    rw [List.map_cons, lcL_cons (hk _) h1, h2 acc]
    cases p : pd x with
    | true =>
      simp only [nox_ok, Res.bind, if_true, h3 p acc, at_new, set_new]
      rw [if_pos (by omega), lc_typed inj pd F hk xs (acc ++ [F x]) (by rw [List.length_append, List.length_singleton]; omega) fun y hy => he y (List.mem_cons_of_mem _ hy), List.filter_cons_of_pos p, List.map_cons, List.append_assoc]
      rfl
    | false =>
      simp only [nox_ok, Res.bind]
      rw [if_neg (by decide), lc_typed inj pd F hk xs acc (by omega) fun y hy => he y (List.mem_cons_of_mem _ hy), List.filter_cons_of_neg (by rw [p]; decide)]
end
theorem oIx_dicK {h : DH} {n : Nat} {kvs : List (Key × D)} {i : Int} (e : h[n]? = some (.dic kvs)) : oIx (.ref n) (.int i) h = getR (getK kvs (.inl i)) h := by
  simp only [oIx, e]
  cases getK kvs (.inl i) <;> rfl
theorem oIx_dicS {h : DH} {n : Nat} {kvs : List (Key × D)} {i : Str} (e : h[n]? = some (.dic kvs)) : oIx (.ref n) (.str i) h = getR (getK kvs (.inr i)) h := by
  simp only [oIx, e]
  cases getK kvs (.inr i) <;> rfl
@[simp] theorem dListRg1_ap {f : FE} {σ : DE} {h : DH} : dListRg1 f σ h = (f σ h).bind fun x h1 => match x with
  | .int n => if 0 ≤ n ∧ n ≤ 1000000 then .ok (.ref h1.length) (h1 ++ [.lst (rngD 0 n.toNat)]) else .bad
  | _ => .bad := (rfl)
@[simp] theorem dTM_ap {m : D → List D → DH → Res D} {fo : FE} {g : FA} {σ : DE} {h : DH} : dTM m fo g σ h = (fo σ h).bind fun x h1 => match x with
  | .tup ds => (g σ h1).bind fun xs h2 => m (.tup ds) xs h2
  | _ => .bad := (rfl)
@[simp] theorem dEnumU_ap {f : FE} {σ : DE} {h : DH} : dEnumU f σ h = (f σ h).bind enumU := (rfl)
@[simp] theorem dCallK_ap {F : Fn} {g : FA} {fv : FE} {σ : DE} {h : DH} : dCallK F g fv σ h = (g σ h).bind fun xs h1 => (fv σ h1).bind fun z h2 => F (xs ++ [z]) h2 := (rfl)
@[simp] theorem dMakeK_ap {c : Str} {F : Fn} {g : FA} {fv : FE} {σ : DE} {h : DH} : dMakeK c F g fv σ h = (g σ h).bind fun xs h1 => (fv σ h1).bind fun z h2 => newD c F (xs ++ [z]) h2 := (rfl)
@[simp] theorem dMakeD_ap {c : Str} {F : Fn} {d : D} {g : FA} {σ : DE} {h : DH} : dMakeD c F d g σ h = (g σ h).bind fun xs h1 => newD c F (xs ++ [d]) h1 := (rfl)
@[simp] theorem withD_ap {F : Fn} {d : D} {xs : List D} {h : DH} : withD F d xs h = F (xs ++ [d]) h := (rfl)
end DL

/-! The data layer: ==, in over plain data (None, ints, texts, tuples of these): the library's equality is that of the data. -/
namespace DL
open PySem PySem.Spec L2
open PyProof.Rows hiding St
mutual
/-- None, ints, texts, tuples of these to a depth -/
def plainD : Nat → D → Bool
  | _, .non => true
  | _, .int _ => true
  | _, .str x => PyData.strOk x
  | n + 1, .tup ds => plainsD n ds
  | _, _ => false
def plainsD : Nat → List D → Bool
  | _, [] => true
  | n, d :: ds => plainD n d && plainsD n ds
end
mutual
theorem plain_up : ∀ (n m : Nat) (d : D), plainD n d = true → n ≤ m → plainD m d = true
  | n, m, .non, _, _ => by cases m <;> rfl
  | n, m, .int i, _, _ => by cases m <;> rfl
  | n, m, .str x, p, _ => by cases n <;> cases m <;> exact p
  | n + 1, m + 1, .tup ds, p, l => plains_up n m ds p (by omega)
  | n + 1, 0, .tup ds, _, l => by omega
  | 0, m, .tup ds, p, _ => by simp [plainD] at p
  | n, m, .bl b, p, _ => by cases n <;> simp [plainD] at p
  | n, m, .rol b, p, _ => by cases n <;> simp [plainD] at p
  | n, m, .ref b, p, _ => by cases n <;> simp [plainD] at p
  | n, m, .exn0 .., p, _ => by cases n <;> simp [plainD] at p
  | n, m, .exn1 .., p, _ => by cases n <;> simp [plainD] at p
theorem plains_up : ∀ (n m : Nat) (ds : List D), plainsD n ds = true → n ≤ m → plainsD m ds = true
  | n, m, [], _, _ => rfl
  | n, m, d :: ds, p, l => by
    rw [plainsD, Bool.and_eq_true] at p ⊢
    exact ⟨plain_up n m d p.1 l, plains_up n m ds p.2 l⟩
end
mutual
def py : D → PyData
  | .non => .none
  | .bl b => .bool b
  | .int i => .int i
  | .str x => .str x
  | .tup ds => .tuple (pys ds)
  | .rol ds => .list (pys ds)
  | .ref _ => .none
  | .exn0 .. => .none
  | .exn1 .. => .none
def pys : List D → List PyData
  | [] => []
  | d :: ds => py d :: pys ds
end
mutual
theorem toP_py (h : DH) : ∀ (n m : Nat) (d : D), plainD n d = true → n < m → toP h m d = some (py d)
  | _, m + 1, .non, _, _ => by simp [toP, py]
  | _, m + 1, .int i, _, _ => by simp [toP, py]
  | _, m + 1, .str x, _, _ => by simp [toP, py]
  | n + 1, m + 1, .tup ds, p, l => by
    rw [toP, toPs_pys h n m ds (by simpa [plainD] using p) (by omega), py]; rfl
  | 0, m + 1, .tup ds, p, _ => by simp [plainD] at p
  | n, m + 1, .bl b, p, _ => by cases n <;> simp [plainD] at p
  | n, m + 1, .rol b, p, _ => by cases n <;> simp [plainD] at p
  | n, m + 1, .ref b, p, _ => by cases n <;> simp [plainD] at p
  | n, m + 1, .exn0 .., p, _ => by cases n <;> simp [plainD] at p
  | n, m + 1, .exn1 .., p, _ => by cases n <;> simp [plainD] at p
  | n, 0, _, _, l => by omega
theorem toPs_pys (h : DH) : ∀ (n m : Nat) (ds : List D), plainsD n ds = true → n < m → toPs h m ds = some (pys ds)
  | n, m, [], _, _ => by simp [toPs, pys]
  | n, m, d :: ds, p, l => by
    rw [plainsD, Bool.and_eq_true] at p
    rw [toPs, toP_py h n m d p.1 l, toPs_pys h n m ds p.2 l, pys]
end
mutual
theorem can_py : ∀ (n : Nat) (d : D), plainD n d = true → (py d).canLay0 = true ∧ (py d).depth ≤ n
  | n, .non, _ => by simp [py, PyData.canLay0, PyData.depth]
  | n, .int _, _ => by simp [py, PyData.canLay0, PyData.depth]
  | n, .str x, p => by cases n <;> (simp only [plainD] at p; simp [py, PyData.canLay0, PyData.depth, p])
  | n + 1, .tup ds, p => by
    have := cans_pys n ds (by simpa [plainD] using p)
    simp only [py, PyData.canLay0, PyData.depth]
    exact ⟨this.1, by omega⟩
  | 0, .tup ds, p => by simp [plainD] at p
  | n, .bl b, p => by cases n <;> simp [plainD] at p
  | n, .rol b, p => by cases n <;> simp [plainD] at p
  | n, .ref b, p => by cases n <;> simp [plainD] at p
  | n, .exn0 .., p => by cases n <;> simp [plainD] at p
  | n, .exn1 .., p => by cases n <;> simp [plainD] at p
theorem cans_pys : ∀ (n : Nat) (ds : List D), plainsD n ds = true → PyData.canLayAll0 (pys ds) = true ∧ PyData.depthAll (pys ds) ≤ n
  | n, [], _ => by simp [pys, PyData.canLayAll0, PyData.depthAll]
  | n, d :: ds, p => by
    rw [plainsD, Bool.and_eq_true] at p
    have h1 := can_py n d p.1
    have h2 := cans_pys n ds p.2
    simp only [pys, PyData.canLayAll0, PyData.depthAll, h1.1, h2.1]
    exact ⟨rfl, by omega⟩
end
theorem shaped_py {n : Nat} {d : D} (p : plainD n d = true) (hn : n ≤ 64) : SeqAt.shaped (py d) = true := by
  obtain ⟨h1, h2⟩ := can_py n d p
  simp only [SeqAt.shaped, h1, Bool.true_and, decide_eq_true_eq]
  omega
theorem shaped_pys {n : Nat} {ds : List D} (p : plainsD n ds = true) (hn : n < 64) : SeqAt.shaped (.list (pys ds)) = true := by
  obtain ⟨h1, h2⟩ := cans_pys n ds p
  have e : PyData.depth (.list (pys ds)) = PyData.depthAll (pys ds) + 1 := by rw [PyData.depth]
  simp only [SeqAt.shaped, PyData.canLay0, e, h1, Bool.true_and, decide_eq_true_eq]
  omega
theorem shaped_pysT {n : Nat} {ds : List D} (p : plainsD n ds = true) (hn : n < 64) : SeqAt.shaped (.tuple (pys ds)) = true := by
  obtain ⟨h1, h2⟩ := cans_pys n ds p
  have e : PyData.depth (.tuple (pys ds)) = PyData.depthAll (pys ds) + 1 := by rw [PyData.depth]
  simp only [SeqAt.shaped, PyData.canLay0, e, h1, Bool.true_and, decide_eq_true_eq]
  omega
mutual
theorem eqv_py : ∀ (n m : Nat) (a b : D), plainD n a = true → plainD m b = true → (PyData.eqv (py a) (py b) = true ↔ a = b)
  | n, m, .non, b, _, q => by
    cases b with
    | non => simp [py, PyData.eqv]
    | int _ => simp [py, PyData.eqv]
    | str _ => simp [py, PyData.eqv]
    | tup _ => simp [py, PyData.eqv]
    | _ => cases m <;> simp [plainD] at q
  | n, m, .int i, b, _, q => by
    cases b with
    | non => simp [py, PyData.eqv]
    | int _ => simp [py, PyData.eqv]
    | str _ => simp [py, PyData.eqv]
    | tup _ => simp [py, PyData.eqv]
    | _ => cases m <;> simp [plainD] at q
  | n, m, .str x, b, _, q => by
    cases b with
    | non => simp [py, PyData.eqv]
    | int _ => simp [py, PyData.eqv]
    | str _ => simp [py, PyData.eqv]
    | tup _ => simp [py, PyData.eqv]
    | _ => cases m <;> simp [plainD] at q
  | n + 1, m + 1, .tup ds, .tup es, p, q => by
    have := eqvs_pys n m ds es (by simpa [plainD] using p) (by simpa [plainD] using q)
    simp only [py, PyData.eqv, D.tup.injEq]
    exact this
  | n + 1, m, .tup ds, .non, p, q => by simp [py, PyData.eqv]
  | n + 1, m, .tup ds, .int _, p, q => by simp [py, PyData.eqv]
  | n + 1, m, .tup ds, .str _, p, q => by simp [py, PyData.eqv]
  | n + 1, 0, .tup ds, .tup _, p, q => by simp [plainD] at q
  | n + 1, m, .tup ds, .bl _, p, q => by cases m <;> simp [plainD] at q
  | n + 1, m, .tup ds, .rol _, p, q => by cases m <;> simp [plainD] at q
  | n + 1, m, .tup ds, .ref _, p, q => by cases m <;> simp [plainD] at q
  | 0, m, .tup ds, b, p, _ => by simp [plainD] at p
  | n, m, .bl _, b, p, _ => by cases n <;> simp [plainD] at p
  | n, m, .rol _, b, p, _ => by cases n <;> simp [plainD] at p
  | n, m, .ref _, b, p, _ => by cases n <;> simp [plainD] at p
theorem eqvs_pys : ∀ (n m : Nat) (a b : List D), plainsD n a = true → plainsD m b = true → (PyData.eqvAll (pys a) (pys b) = true ↔ a = b)
  | n, m, [], [], _, _ => by simp [pys, PyData.eqvAll]
  | n, m, [], _ :: _, _, _ => by simp [pys, PyData.eqvAll]
  | n, m, _ :: _, [], _, _ => by simp [pys, PyData.eqvAll]
  | n, m, a :: as, b :: bs, p, q => by
    rw [plainsD, Bool.and_eq_true] at p q
    rw [pys, pys, PyData.eqvAll, Bool.and_eq_true, eqv_py n m a b p.1 q.1, eqvs_pys n m as bs p.2 q.2, List.cons.injEq]
end
open Classical in
theorem eqv_dec {n m : Nat} {a b : D} (p : plainD n a = true) (q : plainD m b = true) : PyData.eqv (py a) (py b) = decide (a = b) := by
  have := eqv_py n m a b p q
  by_cases e : a = b
  · rw [this.mpr e, decide_eq_true e]
  · rw [decide_eq_false e]
    cases z : PyData.eqv (py a) (py b) with
    | false => rfl
    | true => exact absurd (this.mp z) e
open Classical in
theorem eqvs_dec {n m : Nat} {a b : List D} (p : plainsD n a = true) (q : plainsD m b = true) : PyData.eqvAll (pys a) (pys b) = decide (a = b) := by
  have := eqvs_pys n m a b p q
  by_cases e : a = b
  · rw [this.mpr e, decide_eq_true e]
  · rw [decide_eq_false e]
    cases z : PyData.eqvAll (pys a) (pys b) with
    | false => rfl
    | true => exact absurd (this.mp z) e
theorem plains_map {α : Type} {f : α → D} {n : Nat} : ∀ {l : List α}, (∀ a ∈ l, plainD n (f a) = true) → plainsD n (l.map f) = true
  | [], _ => rfl
  | a :: l, h => by
    rw [List.map_cons, plainsD, h a (List.mem_cons_self ..), plains_map fun x hx => h x (List.mem_cons_of_mem _ hx)]
    rfl
theorem plains_at {n : Nat} : ∀ {l : List D} {d : D}, plainsD n l = true → d ∈ l → plainD n d = true
  | a :: l, d, h, m => by
    rw [plainsD, Bool.and_eq_true] at h
    rcases List.mem_cons.mp m with rfl | m
    · exact h.1
    · exact plains_at h.2 m
theorem pys_map : ∀ l : List D, pys l = l.map py
  | [] => rfl
  | a :: l => by rw [pys, List.map_cons, pys_map l]
section
variable {h : DH} {n m : Nat} {x y : D} {ds es : List D}
/-- == of tuples -/
theorem oEq_tp (p : plainD n (.tup ds) = true) (q : plainD m (.tup es) = true) (hn : n ≤ 64) (hm : m ≤ 64) : ∃ b : Bool, (b = true ↔ ds = es) ∧ oEq (.tup ds) (.tup es) h = .ok (.bl b) h ∧ oNe (.tup ds) (.tup es) h = .ok (.bl (!b)) h := by
  refine ⟨PyData.eqv (py (.tup ds)) (py (.tup es)), ?_, ?_, ?_⟩
  · rw [eqv_py n m _ _ p q, D.tup.injEq]
  · simp only [oEq, scalD, peq, toP_py h n 66 _ p (by omega), toP_py h m 66 _ q (by omega), shaped_py p hn, shaped_py q hm, if_true, and_self]
  · simp only [oNe, scalD, peq, toP_py h n 66 _ p (by omega), toP_py h m 66 _ q (by omega), shaped_py p hn, shaped_py q hm, if_true, and_self]
theorem toP_ref {k : Nat} (e : h[k]? = some (.lst ds)) (p : plainsD n ds = true) (hn : n < 64) : toP h 66 (.ref k) = some (.list (pys ds)) := by
  rw [toP]
  simp only [e, toPs_pys h n 65 ds p (by omega), Option.map_some]
/-- == of lists -/
theorem oEq_lp {j k : Nat} (e1 : h[j]? = some (.lst ds)) (e2 : h[k]? = some (.lst es)) (p : plainsD n ds = true) (q : plainsD m es = true) (hn : n < 64) (hm : m < 64) : ∃ b : Bool, (b = true ↔ ds = es) ∧ oEq (.ref j) (.ref k) h = .ok (.bl b) h ∧ oNe (.ref j) (.ref k) h = .ok (.bl (!b)) h := by
  refine ⟨PyData.eqvAll (pys ds) (pys es), eqvs_pys n m _ _ p q, ?_, ?_⟩
  · simp only [oEq, scalD, peq, toP_ref e1 p hn, toP_ref e2 q hm, shaped_pys p hn, shaped_pys q hm, if_true, and_self, PyData.eqv]
  · simp only [oNe, scalD, peq, toP_ref e1 p hn, toP_ref e2 q hm, shaped_pys p hn, shaped_pys q hm, if_true, and_self, PyData.eqv]
theorem eqF_plain {n m : Nat} {a b : D} (p : plainD n a = true) (q : plainD m b = true) (f : flatD a = true) (g : flatD b = true) : eqF a b = true ↔ a = b := by
  cases a <;> first | (cases f; done) | skip
  all_goals (cases b <;> first | (cases g; done) | (simp [eqF]; done) | (cases n <;> simp [plainD] at p; done) | (cases m <;> simp [plainD] at q; done) | skip)
/-- x in a list -/
theorem inY_lp {k : Nat} (e : h[k]? = some (.lst ds)) (p : plainsD n ds = true) (q : plainD m x = true) (hn : n < 64) (hm : m ≤ 64) (hx : ∀ i, x ≠ .ref i) : ∃ b : Bool, (b = true ↔ x ∈ ds) ∧ oInY x (.ref k) h = .ok (.bl b) h ∧ oNotInY x (.ref k) h = .ok (.bl (!b)) h := by
  by_cases f : flatD x = true ∧ ds.all flatD = true
  · refine ⟨ds.any fun d => eqF d x, ?_, oInY_old ?_, oNotInY_old ?_⟩
    · rw [List.any_eq_true]
      constructor
      · rintro ⟨d, hd, e⟩
        have := (eqF_plain (plains_at p hd) q (List.all_eq_true.mp f.2 d hd) f.1).mp e
        rw [← this]
        exact hd
      · intro hd
        exact ⟨x, hd, (eqF_plain q q f.1 f.1).mpr rfl⟩
    · simp only [inD, e, if_pos f]
    · simp only [inD, e, if_pos f]
  · have no : inD x (.ref k) h = none := by simp only [inD, e, if_neg f]
    have dd : deepD x (.ref k) h = some (py x, pys ds) := by
      simp only [deepD, toP_py h m 66 x q (by omega), toP_ref e p hn, shaped_py q hm, shaped_pys p hn, and_self, if_true]
    refine ⟨(pys ds).any fun z => PyData.eqv z (py x), ?_, ?_, ?_⟩
    · rw [pys_map, List.any_map, List.any_eq_true]
      constructor
      · rintro ⟨d, hd, e⟩
        rw [← (eqv_py n m _ _ (plains_at p hd) q).mp e]
        exact hd
      · intro hd
        exact ⟨x, hd, (eqv_py m m _ _ q q).mpr rfl⟩
    · simp only [oInY, inY, no, dd, Option.map_some]
    · simp only [oNotInY, inY, no, dd, Option.map_some]
/-- xs.index(x) -/
theorem index_lp {k j : Nat} (e : h[k]? = some (.lst ds)) (p : plainsD n ds = true) (q : plainD m x = true) (hn : n < 64) (hm : m ≤ 64) (hj : ds[j]? = some x) (no : ∀ i, i < j → ds[i]? ≠ some x) : mIndexY (.ref k) [x] h = .ok (.int (j : Nat)) h := by
  have dd : deepD x (.ref k) h = some (py x, pys ds) := by
    simp only [deepD, toP_py h m 66 x q (by omega), toP_ref e p hn, shaped_py q hm, shaped_pys p hn, and_self, if_true]
  obtain ⟨jl, je⟩ := List.getElem?_eq_some_iff.mp hj
  have fi : (pys ds).findIdx? (fun z => PyData.eqv z (py x)) = some j := by
    rw [pys_map]
    refine List.findIdx?_eq_some_iff_getElem.mpr ⟨by rw [List.length_map]; exact jl, ?_, fun i hi => ?_⟩
    · rw [List.getElem_map, je]
      exact (eqv_py m m _ _ q q).mpr rfl
    · rw [List.getElem_map]
      intro z
      have il : i < ds.length := by omega
      have := (eqv_py n m _ _ (plains_at p (List.getElem_mem il)) q).mp z
      exact no i hi (by rw [List.getElem?_eq_getElem il, this])
  simp only [mIndexY, dd, fi]
end
end DL
namespace DL
open PySem PySem.Spec L2
open PyProof.Rows hiding St
/-- several handlers -/
def RS.caughtM (r : RS) (cs : List (Str × List (Str × Bool) × FS)) : RS := match r with
  | .exc e σ1 h1 => catchM e σ1 h1 cs
  | r => r
section
variable {σ : DE} {h : DH} {b k : FS} {cs : List (Str × List (Str × Bool) × FS)} {e : Exv} {x : Str} {l : List (Str × Bool)} {d : D}
@[simp] theorem caughtM_nx : RS.caughtM (.nx σ h) cs = .nx σ h := (rfl)
@[simp] theorem caughtM_rt : RS.caughtM (.rt d h) cs = .rt d h := (rfl)
@[simp] theorem caughtM_exc : RS.caughtM (.exc e σ h) cs = catchM e σ h cs := (rfl)
@[simp] theorem dTryM_ap : dTryM b cs σ h = (b σ h).caughtM cs := by
  unfold dTryM RS.caughtM
  cases b σ h <;> rfl
@[simp] theorem catchM_nil : catchM e σ h [] = .exc e σ h := (rfl)
@[simp] theorem catchM_cons : catchM e σ h ((x, l, k) :: cs) = (match lookE e.cls l with
    | some true => (k σ h).seal
    | some false => catchM e σ h cs
    | none => .bad) := (rfl)
theorem same_flat {n : Nat} (f : flatD d = true) : SameN h (n + 1) d d := .inl ⟨rfl, f⟩
theorem same_tup {n : Nat} {ds : List D} (l : ds.length < 1000) (p : ∀ d ∈ ds, SameN h n d d) : SameN h (n + 1) (.tup ds) (.tup ds) :=
  .inr (.inl ⟨ds, ds, rfl, rfl, rfl, l, fun i d e h1 h2 => by
    rw [h1] at h2
    cases h2
    exact p d (List.mem_of_getElem? h1)⟩)
theorem same_two {n : Nat} {a b c d : D} (p : SameN h n a c) (q : SameN h n b d) : SameN h (n + 1) (.tup [a, b]) (.tup [c, d]) :=
  .inr (.inl ⟨_, _, rfl, rfl, rfl, by simp, fun i x y h1 h2 => by
    match i, h1, h2 with
    | 0, h1, h2 => cases h1; cases h2; exact p
    | 1, h1, h2 => cases h1; cases h2; exact q
    | i + 2, h1, _ => simp at h1⟩)
theorem same_lst {n i j : Nat} {ds : List D} (e1 : h[i]? = some (.lst ds)) (e2 : h[j]? = some (.lst ds)) (l : ds.length < 1000) (p : ∀ d ∈ ds, SameN h n d d) : SameN h (n + 1) (.ref i) (.ref j) :=
  .inr (.inr ⟨i, j, ds, ds, rfl, rfl, e1, e2, rfl, l, fun a d e h1 h2 => by
    rw [h1] at h2
    cases h2
    exact p d (List.mem_of_getElem? h1)⟩)
end
end DL
namespace DL
open PySem PySem.Spec L2
open PyProof.Rows hiding St
/-- a comprehension each of whose items lays one new cell -/
theorem lc_alloc {β : Type} {keep : DH → Prop} {gg : DG} {e : FE} {σ : DE} {h : DH} (inj : β → D) (F : β → Nat → D) (C : β → Cell) (hk : ∀ t, keep (h ++ t)) : ∀ (xs : List β) (acc : List D) (cells : DH), acc.length = cells.length → acc.length + xs.length < 16777216 →
    (∀ x ∈ xs, ∃ σ1, gg (inj x) σ = some σ1 ∧ ∀ t, e σ1 (h ++ t) = .ok (F x (h ++ t).length) (h ++ t ++ [C x])) →
    lcL keep gg dYes e σ h.length (xs.map inj) (h ++ .lst acc :: cells) = .ok (.ref h.length) (h ++ .lst (acc ++ (xs.zipIdx cells.length).map fun p => F p.1 (h.length + 1 + p.2)) :: (cells ++ xs.map C))
  | [], acc, cells, _, _, _ => by
    rw [List.map_nil, lcL_nil (hk _)]
    simp
  | x :: xs, acc, cells, hc, hl, he => by
    obtain ⟨σ1, h1, h2⟩ := he x (List.mem_cons_self ..)
    rw [List.length_cons] at hl
    have a0 : (h ++ Cell.lst acc :: cells ++ [C x])[h.length]? = some (.lst acc) := by simp
    have s0 : (h ++ Cell.lst acc :: cells ++ [C x]).set h.length (.lst (acc ++ [F x (h.length + 1 + cells.length)])) = h ++ .lst (acc ++ [F x (h.length + 1 + cells.length)]) :: (cells ++ [C x]) := by simp
    have ln : (h ++ Cell.lst acc :: cells).length = h.length + 1 + cells.length := by simp; omega
    have ee := h2 (Cell.lst acc :: cells)
    rw [ln] at ee
    rw [List.map_cons, lcL_turn (hk _) h1 ee a0 (by omega), s0, lc_alloc inj F C hk xs (acc ++ [F x (h.length + 1 + cells.length)]) (cells ++ [C x]) (by simp [hc]) (by simp; omega) fun y hy => he y (List.mem_cons_of_mem _ hy)]
    simp [List.zipIdx_cons]
end DL

/-! The data layer: xs.extend(ys). -/
namespace DL
open PySem PySem.Spec L2
open PyProof.Rows hiding St
section
variable {K : PySem.W.Frag} {mg : Str → Option Value}
def mExtend : D → List D → DH → Res D
  | .ref n, [.ref b], h => match h[n]? with
    | some (.lst ds) => match h[b]? with
      | some (.lst es) => if ds.length + es.length ≤ 16777216 then .ok .non (h.set n (.lst (ds ++ es))) else .bad
      | _ => .bad
    | _ => .bad
  | _, _, _ => .bad
theorem ms_extend : MetS K mg rExtend mExtend := by
  intro ρ dh H x v ds vs Q W τ w rx rs p
  unfold mExtend at p
  split at p
  · obtain ⟨u, rfl, ry⟩ := rs.inv1
    cases ry with
    | ref hb =>
    cases rx with
    | ref ha =>
      split at p
      · rename_i ds hk
        obtain ⟨xs, hx, r⟩ := cell_lst w hk ha
        split at p
        · rename_i es hk2
          obtain ⟨ys, hy, r2⟩ := cell_lst w hk2 hb
          split at p
          · rename_i hl
            exact ⟨_, _, xs, ys, rfl, rfl, hx, hy, size_lim (by rw [← r.length, ← r2.length]; exact hl), put_lst (es := ds) w ha hx (r.append r2) .non p⟩
          · exact p.elim
        · exact p.elim
      · exact p.elim
  · exact p.elim
theorem mExtend_lst {h : DH} {n b : Nat} {ds es : List D} (e : h[n]? = some (.lst ds)) (e2 : h[b]? = some (.lst es)) (hl : ds.length + es.length ≤ 16777216) : mExtend (.ref n) [.ref b] h = .ok .non (h.set n (.lst (ds ++ es))) := by simp only [mExtend, e, e2, if_pos hl]
theorem repl_ints {ρ : List Addr} {H : Hp} : ∀ l : List Int, RepL K ρ H (l.map D.int) (l.map V.int)
  | [] => .nil
  | a :: l => .cons (.int a) (repl_ints l)
/-- sorted of a list of ints -/
def sortI (l : List Int) : List Int := l.mergeSort (fun a b => decide (a ≤ b))
theorem sortI_pw (l : List Int) : (sortI l).Pairwise (· ≤ ·) := by
  have := List.pairwise_mergeSort (le := fun a b : Int => decide (a ≤ b)) (fun a b c h1 h2 => by simp at *; omega) (fun a b => by simp; omega) l
  exact this.imp (fun h => by simpa using h)
theorem sortI_perm (l : List Int) : (sortI l).Perm l := List.mergeSort_perm l _
theorem sortI_one {l l' : List Int} (h1 : l'.Perm l) (h2 : l'.Pairwise (· ≤ ·)) : l' = sortI l :=
  List.Perm.eq_of_pairwise (fun a b _ _ x y => Int.le_antisymm x y) h2 (sortI_pw l) (h1.trans (sortI_perm l).symm)
def bSorted : List D → DH → Res D
  | [x], h => match iseqD h x with
    | some ns => if ns.length < 64 then .ok (.ref h.length) (h ++ [.lst ((sortI ns).map D.int)]) else .bad
    | none => .bad
  | _, _ => .bad
theorem cs_sorted : CallS K mg (rSorted K) bSorted := by
  intro ρ dh H ds vs Q W τ w rx p
  unfold bSorted at p
  split at p
  · obtain ⟨v, rfl, r⟩ := rx.inv1
    split at p
    · rename_i ns e
      obtain ⟨a, rfl, s⟩ := iseqD_rep w r e
      split at p
      · rename_i hl
        refine ⟨a, ns, rfl, s, hl, fun ns' q h1 h2 h3 => ?_⟩
        rw [sortI_one h1 h2]
        exact new_lst w (repl_ints _) p q h3
      · exact p.elim
    · exact p.elim
  · exact p.elim
theorem sorted_at {h : DH} {n : Nat} {l : List Int} (e : h[n]? = some (.lst (l.map D.int))) (hl : l.length < 64) : bSorted [.ref n] h = .ok (.ref h.length) (h ++ [.lst ((sortI l).map D.int)]) := by simp only [bSorted, iseqD_lst e, if_pos hl]
end
/-! ### a == b by an own __eq__ -/
def isIns (c : Str) (x : D) (h : DH) : Bool := match x with
  | .ref n => match h[n]? with
    | some (.obj c' _) => c' == c
    | _ => false
  | _ => false
def eqO (c : Str) (F : Fn) (x y : D) (h : DH) : Res D := if isIns c x h = true ∧ isIns c y h = true then (match F [x, y] h with
  | .ok (.bl b) h2 => .ok (.bl b) h2
  | _ => .bad) else .bad
theorem isIns_rep {K : PySem.W.Frag} {mg : Str → Option Value} {ρ : List Addr} {H : Hp} {dh : DH} {x : D} {v : V} {C : Addr} {c : Str} (w : Wd K mg ρ dh H) (r : Rep K ρ H x v) (gC : mg c = some (.ref C)) (e : isIns c x dh = true) :
    ∃ a dx fs, v = .ref a ∧ H a = some (.ins C dx fs) := by
  unfold isIns at e
  cases r <;> first | (cases e; done) | skip
  rename_i n a ha
  simp only at e
  split at e
  · rename_i c' fs hk
    simp only [beq_iff_eq] at e
    subst e
    obtain ⟨C2, dx, xs, gC2, hx, rf⟩ := cell_obj w hk ha
    rw [gC] at gC2
    cases gC2
    exact ⟨a, dx, xs, rfl, hx⟩
  · cases e
def rEqO (C : Addr) (sp : Sp) : R2 := fun x y H Q => ∃ a b dx dy fs gs, x = .ref a ∧ y = .ref b ∧ H a = some (.ins C dx fs) ∧ H b = some (.ins C dy gs) ∧ sp [x, y] H (fun v H' => (∃ b, v = .bl b) ∧ Q v H') (fun _ _ _ => False)
section
variable {X : Cx} {W : WX} {k j : Nat} {a b : Expr} {fa fb : FE} {c : Str} {ps : List Str} {F : Fn} {pos : Pos}
theorem op_eqO {C f : Addr} {fd : FuncData} {sp : Sp} (G : FnOk X.prog X.w X.K X.mg X.base (L2.CX X.prog X.w) k f fd ps sp) (M : Meth X.K C "__eq__" f) (hr : Room k X.A) (hb : Binds X.K fd ps []) : OpR X (compareOp .Eq) (rEqO C sp) := by
  intro pins s σ H x y v u Q I rx ry h
  obtain ⟨a, b, dx, dy, fs, gs, rfl, rfl, ha, hb', hsp⟩ := h
  cases rx
  cases ry
  obtain ⟨mA, J, _⟩ := ins_get I.hok ha
  obtain ⟨mB, J', _⟩ := ins_get I.hok hb'
  obtain ⟨od, J, _⟩ := J.look
  obtain ⟨od', J', _⟩ := J'.look
  obtain ⟨m, hF⟩ := I.fr
  show wpAny (model X.prog X.w) X.A (richCompare .Eq (.ref a) (.ref b)) (EP X pins σ Q) X.xe s
  refine PySem.W.cmp_K (op := .Eq) (tb := .ref C) hr.units0 hF I.ok.mod.kin J J'.type (by simp [PySem.W.notFirst]) M.at_ M.fn ?_
  refine wpAny_mono (run_fnS (us := [.ref a, .ref b]) (vs := [.ref a, .ref b]) (E := fun _ _ _ _ => False) G hr hb (fun pins H s e s' I c => ?_) I (.cons rfl (.cons rfl .nil)) hsp) (fun v s' q => ?_) (fun _ _ e => e)
  · obtain ⟨_, _, _, _, _, _, _, _, _, _, _, _, hE⟩ := c
    exact hE.elim
  · obtain ⟨z, H', I', rz, ⟨b, rfl⟩, q⟩ := q
    cases rz
    exact ⟨.bl b, H', I', rfl, q⟩
theorem os_eqO {K : PySem.W.Frag} {mg : Str → Option Value} {C : Addr} (gC : mg c = some (.ref C)) : OpS K mg (rEqO C (spD K mg F)) (eqO c F) := by
  intro ρ dh H x y v u Q W τ w rx ry p
  unfold eqO at p
  split at p
  · rename_i hb
    obtain ⟨a, dx, fs, rfl, hx⟩ := isIns_rep w rx gC hb.1
    obtain ⟨b, dy, gs, rfl, hy⟩ := isIns_rep w ry gC hb.2
    refine ⟨a, b, dx, dy, fs, gs, rfl, rfl, hx, hy, [x, y], dh, ρ, w, .cons rx (.cons ry .nil), ⟨2, rfl, rfl⟩, ?_⟩
    split at p
    · rename_i b h2 e
      rw [e]
      intro ρ' H' z g w' r
      have q := p ρ' H' z g w' r
      cases r
      exact ⟨⟨b, rfl⟩, q⟩
    · exact p.elim
  · exact p.elim
theorem de_eqO (h : HasM X.prog X.w X.K X.mg X.base k c "__eq__" ps F) (hr : Room j X.A) (hk : k ≤ j) (ha : PE X a (rE X.K X.mg W fa)) (hb : PE X b (rE X.K X.mg W fb)) :
    PE X (.Compare a [.Eq] [b] pos) (rE X.K X.mg W (dBin (eqO c F) fa fb)) := by
  obtain ⟨C, f, fd, gC, kC, M, G, hbd⟩ := h
  exact de_cmp (op_eqO G M (hr.mono hk) hbd) (os_eqO gC) ha hb
theorem eqO_at {h h2 : DH} {n m : Nat} {fs gs : List (Str × D)} {b : Bool} (e1 : h[n]? = some (.obj c fs)) (e2 : h[m]? = some (.obj c gs)) (e : F [.ref n, .ref m] h = .ok (.bl b) h2) : eqO c F (.ref n) (.ref m) h = .ok (.bl b) h2 := by
  have i1 : isIns c (.ref n) h = true := by simp [isIns, e1]
  have i2 : isIns c (.ref m) h = true := by simp [isIns, e2]
  simp only [eqO, i1, i2, and_self, if_true, e]
end
/-! ### isinstance(x, C), x an instance of the own class C -/
def dIsO (c : Str) (f : FE) : FE := fun σ h => (f σ h).bind fun x h1 => if isIns c x h1 = true then .ok (.bl true) h1 else .bad
theorem de_isO {X : Cx} {W : WX} {e : Expr} {f : FE} {c : Str} {p p2 pos : Pos} (hi : ∃ C, X.mg c = some (.ref C) ∧ C8.InsC X.K C) (hm : X.mg "isinstance" = none) (he : PE X e (rE X.K X.mg W f)) (hg : Gl X "isinstance" := by rfl) (hg2 : Gl X c := by rfl) (hd : (c == ("__debug__" : Str)) = false := by decide)
    (hs : starEach (e :: [.Name c p2]) X.env = (false, eval e X.env) :: starEach [.Name c p2] X.env := by rfl) (hs2 : starEach [.Name c p2] X.env = (false, eval (.Name c p2) X.env) :: starEach [] X.env := by rfl) (hpl : (backTo pos (starEach [.Name c p2] X.env)).any (·.1) = false := by rfl) :
    PE X (.Call (.Name "isinstance" p) [e, .Name c p2] [] pos) (rE X.K X.mg W (dIsO c f)) := by
  obtain ⟨C, gC, ic⟩ := hi
  refine PE.weak (pe_callB (C8.call_isC ic) hg hm (by decide +kernel) (pa_cons he (pa_cons (pe_glob (v := .ref C) hg2 gC rfl hd) pa_nil hs2) hs) (by decide) (by decide) hs hpl) fun τ H Q h => ?_
  refine rd_one (r := fun v H Q => ∃ a dx fs, [v, V.ref C] = [.ref a, .ref C] ∧ H a = some (.ins C dx fs) ∧ Q (.bl true) H) (fun ρ dh H x v Q W τ w rx p => ?_) h
  split at p
  · rename_i b
    obtain ⟨a, dx, fs, rfl, hx⟩ := isIns_rep w rx gC b
    exact ⟨a, dx, fs, rfl, hx, same_val w (.bl _) p⟩
  · exact p.elim
@[simp] theorem dIsO_ap {c : Str} {f : FE} {σ : DE} {h : DH} : dIsO c f σ h = (f σ h).bind fun x h1 => if isIns c x h1 = true then .ok (.bl true) h1 else .bad := (rfl)
theorem isIns_at {c : Str} {h : DH} {n : Nat} {fs : List (Str × D)} (e : h[n]? = some (.obj c fs)) : isIns c (.ref n) h = true := by simp [isIns, e]
end DL

/-! The data layer: own errors with a field; except X as n with n.f and isinstance(n, C). -/
namespace DL
open PySem PySem.Spec L2
open PyProof.Rows hiding St

/-! ### the __init__ of such a class -/
/-- the class from which the __init__ is taken by name -/
structure BaseI (K : PySem.W.Frag) (S : Addr) : Prop where
  rd : PySem.W.readsIn K S (.type "type") = true
  ga : PySem.W.specialIn K (.ref S) "__getattribute__" = some (some (.builtin "type.__getattribute__"))
  at_ : PySem.W.findCls K (.ref S) (.type "type") "__init__" = some (.val (.builtin "ValueError.__init__"))
def BaseIs (K : PySem.W.Frag) (mg : Str → Option Value) (x : Str) : Prop := ∃ S, mg x = some (.ref S) ∧ BaseI K S
/-- what the __init__ does -/
def spI (K : PySem.W.Frag) (f : Str) : Sp := fun vs H N _ => ∃ (a C : Addr) (v : V), vs = [.ref a, v] ∧ OexC K C ∧ PySem.W.findIn K (.ref C) f = some none ∧ H a = some (exo a C none) ∧
  ∀ dx, H dx = none → dx ≠ a → N .non (upd (upd H dx (exd dx [(f, v)])) a (exo a C (some dx)))
section
variable {X : Cx} {e : Expr} {es : List Expr} {ta : TA} {p1 p2 pos : Pos} {x : Str}
theorem pe_binit {pl : Sem Bool} (hg : Gl X x) (hS : BaseIs X.K X.mg x) (ha : PA X (e :: es) ta) (hdb : (x == ("__debug__" : Str)) = false := by decide)
    (hc : eval (.Call (.Attribute (.Name x p1) "__init__" p2) (e :: es) [] pos) X.env = (do
      let ov ← eval (.Name x p1) X.env
      standAt p2.atName
      let (f, first) ← holding [ov] (getMethod ov "__init__" pl)
      callWith pos f first (backTo pos (starEach (e :: es) X.env)) (backToKw pos (keywordEach [] X.env))) := by rfl)
    (he : starEach (e :: es) X.env = (false, eval e X.env) :: starEach es X.env := by rfl) (hpl : (backTo pos (starEach es X.env)).any (·.1) = false := by rfl) :
    PE X (.Call (.Attribute (.Name x p1) "__init__" p2) (e :: es) [] pos) (tVeI X.K ta) := by
  obtain ⟨S, gS, B⟩ := hS
  refine ⟨fun pins s σ H Q I h => ?_⟩
  refine PySem.W.methodCall_KW (ld_glob I hg gS ?_ hdb) hc
  refine PySem.W.method_cls I.kIn B.ga (PySem.W.cls_value I.kIn B.rd B.at_ (by decide +kernel) ?_)
  show wpAny _ _ (callWith pos (Value.builtin "ValueError.__init__") [] (backTo pos (starEach (e :: es) X.env)) []) _ _ _
  refine PyProof.Rows.callWith_method1 (thn (ha.run pos pins _ σ H _ (I.tok _) h) fun us s1 ⟨vs, H1, I1, r1, a, C, ws, ev, hl, T, ea, q⟩ => ?_) he hpl
  subst ev
  cases r1 with
  | @cons _ u0 _ ur ra rw' =>
    obtain rfl : u0 = Value.ref a := ra
    have hlen : ur.length ≤ sizeLine := by
      rw [← Paired.length rw', sizeLine_eq]
      omega
    exact oinit_ok T I1 ea hlen fun s' J => ⟨.non, H1, J, rfl, q⟩
end
section
variable {P : Program} {w : World} {K : PySem.W.Frag} {mg : Str → Option Value} {base : Heap}
/-- the reading of the body -/
def tIni (K : PySem.W.Frag) (t f : Str) : TS := tSeq (tDrop (tVeI K (tCons (tVar 0) (tCons (tC (.str t)) tNil)))) (tOst K f (tVar 0) (tVar 1))
theorem init_ok {qual t f2 : Str} {st : Stmt} {f : Addr} {fd : FuncData} {N : List Str} (F : Fun K "__init__" qual st f fd) (S : FnScope N N (defScope st)) (hN : N.length = 2)
    (hb : ∀ (cdv : Value) (A : Around) (outer : List Env) (s : Shared) (H : Hp) (E : XK), PSs (cxOf (L2.CX P w) P w K mg base N qual (defScope st) f cdv A outer s H E) (defBody st) (tIni K t f2)) :
    FnOk P w K mg base (L2.CX P w) 1 f fd N (spI K f2) := by
  refine F.okX S (fun vs H Q E h => ?_) (fun cdv A outer s H vs Q E hr h => ⟨tIni K t f2, hb cdv A outer s H E, ?_⟩)
  · obtain ⟨a, C, v, rfl, _⟩ := h
    rw [hN]
    rfl
  · obtain ⟨a, C, v, rfl, T, hno, ha, q⟩ := h
    unfold tIni tSeq tDrop tVeI tCons tNil tC tOst
    first
      | rw [hN]
      | skip
    refine ⟨.ref a, rfl, a, C, [.str t], rfl, by simp, T, ha, v, rfl, .ref a, rfl, a, C, rfl, T, hno, .inl ⟨ha, fun dx n ne => q dx n ne⟩⟩
/-- such a class: its __init__ keeps spI -/
def ErrF (P : Program) (w : World) (K : PySem.W.Frag) (mg : Str → Option Value) (base : Heap) (x f : Str) : Prop :=
  ∃ (C fI : Addr) (fd : FuncData) (ps : List Str), mg x = some (.ref C) ∧ OexC K C ∧ PySem.W.findIn K (.ref C) f = some none ∧ PySem.W.findIn K (.ref C) "__init__" = some (some (.ref fI)) ∧
    PySem.W.typeIn K (.ref fI) = some (.type "function") ∧ FnOk P w K mg base (L2.CX P w) 1 fI fd ps (spI K f) ∧ Binds K fd ps []
def HereX (K : PySem.W.Frag) (mg : Str → Option Value) (x f qual : Str) (st : Stmt) (ps : List Str) : Prop :=
  ∃ (C fI : Addr) (fd : FuncData), mg x = some (.ref C) ∧ OexC K C ∧ PySem.W.findIn K (.ref C) f = some none ∧ PySem.W.findIn K (.ref C) "__init__" = some (some (.ref fI)) ∧
    PySem.W.typeIn K (.ref fI) = some (.type "function") ∧ Fun K "__init__" qual st fI fd ∧ Binds K fd ps []
theorem errF_of {x f qual : Str} {st : Stmt} {ps : List Str} (h : HereX K mg x f qual st ps) (ok : ∀ fI fd, Fun K "__init__" qual st fI fd → FnOk P w K mg base (L2.CX P w) 1 fI fd ps (spI K f)) : ErrF P w K mg base x f := by
  obtain ⟨C, fI, fd, h1, h2, h3, h4, h5, h6, h7⟩ := h
  exact ⟨C, fI, fd, ps, h1, h2, h3, h4, h5, ok fI fd h6, h7⟩
end

/-! ### raise X(e) -/
def dRaiseF (x f : Str) (fe : FE) : FS := dThen fe fun v σ h => .exc ⟨x, [(f, v)]⟩ σ h
theorem upd_made {H : Hp} {a dx C : Addr} {f : Str} {v : V} (ha : H a = none) (hd : H dx = none) (hne : dx ≠ a) :
    upd (del (upd (upd (upd H a (exo a C none)) dx (exd dx [(f, v)])) a (exo a C (some dx))) a) dx (.xd [(f, v)]) = upd H dx (.xd [(f, v)]) := by
  funext b
  by_cases h1 : b = dx
  · rw [h1, upd_same, upd_same]
  · rw [upd_ne h1, upd_ne h1]
    by_cases h2 : b = a
    · rw [h2, del_same, ha]
    · rw [del_ne h2, upd_ne h2, upd_ne h1, upd_ne h2]
section
variable {X : Cx} {W : WX}
theorem takes_no {X : Cx} : Takes X (fun _ _ _ _ => False) := fun _ _ ⟨_, _, _, _, _, _, _, _, _, _, _, _, _, _, _, _, w⟩ => w.elim
theorem ds_raiseF {x f : Str} {e : Expr} {fe : FE} {p pos pos2 : Pos} {j : Nat} (hc : X.calm = true) (tk : Takes X W) (T : ErrF X.prog X.w X.K X.mg X.base x f) (hr : Room j X.A) (hj : 2 ≤ j) (he : PE X e (rE X.K X.mg W fe)) (hg : Gl X x := by rfl)
    (hs : starEach [e] X.env = (false, eval e X.env) :: starEach [] X.env := by rfl) (hdb : (x == ("__debug__" : Str)) = false := by decide) (hpl : (backTo pos (starEach [] X.env)).any (·.1) = false := by rfl) :
    PS X (.Raise (some (.Call (.Name x p) [e] [] pos)) none pos2) (rS X.K X.mg W (dRaiseF x f fe)) := by
  obtain ⟨C, fI, fd, ps, gC, O, hno, iC, tI, F1, hb⟩ := T
  refine PS.weak (ps_raise hc tk (pmk_oex (dvs := []) (ds := []) O iC tI F1 (hr.mono hj) hb .nil (fun pins σ H s e s' I c => passes_call takes_no (fun _ _ _ _ h => h.elim) pins σ H s e s' I c) hg gC (pa_cons he pa_nil hs) hdb hs hpl)) fun D τ H r => ?_
  show rE X.K X.mg W fe τ H fun v H1 => [v].length ≤ 1000 ∧ ∀ a, H1 a = none → spI X.K f (.ref a :: ([v] ++ [])) (upd H1 a (exo a C none)) (fun u H2 => u = .non ∧ ∃ (d : Addr) (fs : List (Str × V)), H2 a = some (exo a C (some d)) ∧ H2 d = some (exd d fs) ∧ H1 d = none ∧ W (.ref C) (some d) τ (upd (del H2 a) d (.xd fs))) (fun _ _ _ => False)
  refine rd.mono (fun v H1 => ?_) (rS_then (R := Rep X.K) r)
  rintro ⟨d, σ, dh, ρ, w, s, rx, p⟩
  refine ⟨by simp, fun a ha => ⟨a, C, v, rfl, O, hno, upd_same, fun dx hd hne => ⟨rfl, dx, [(f, v)], upd_same, by rw [upd_ne hne, upd_same], ?_, ?_⟩⟩⟩
  · rw [upd_ne hne] at hd
    exact hd
  · rw [upd_ne hne] at hd
    rw [upd_made ha hd hne]
    have g : Grow ρ H1 ρ (upd H1 dx (.xd [(f, v)])) := grow_upd hd
    exact p _ _ _ _ _ g (w.side hd) (s.grow g) ⟨C, gC, rfl, .inr ⟨by simp, dx, [(f, v)], rfl, upd_same, .cons ⟨rfl, rx.grow g⟩ .nil⟩⟩
end

/-! ### try .. except X as n -/
open Classical in
/-- what is told whatever the addresses are -/
noncomputable def allA (f : Addr → Addr → RS) : RS := if ∀ a b, f a b = f 0 0 then f 0 0 else .bad
@[simp] theorem allA_c {r : RS} : allA (fun _ _ => r) = r := if_pos fun _ _ => rfl
theorem allA_of {f : Addr → Addr → RS} {r : RS} (h : ∀ a b, f a b = r) : allA f = r := by
  have e : f = fun _ _ => r := by
    funext a b
    exact h a b
  rw [e, allA_c]
theorem allA_at {f : Addr → Addr → RS} {r : RS} (a b : Addr) (h : allA f = r) (hr : r ≠ .bad) : f a b = r := by
  unfold allA at h
  split at h
  · rename_i z
    rw [z a b, h]
  · exact absurd h.symm hr
theorem PstS.allA {K : PySem.W.Frag} {mg : Str → Option Value} {W : WX} {ρ : List Addr} {H : Hp} {D : Ends} {f : Addr → Addr → RS} (a b : Addr) (p : PstS K mg W ρ H D (DL.allA f)) : PstS K mg W ρ H D (f a b) := by
  unfold DL.allA at p
  split at p
  · rename_i z
    rw [z a b]
    exact p
  · exact p.elim
noncomputable def dTryE (fb : FS) (l : List (Str × Bool)) (i : Nat) (fs : Addr → Option Addr → Str → FS) : FS := fun σ h => match fb σ h with
  | .exc e σ1 h1 => match lookE e.cls l with
    | some true => if i < σ1.length then (match e.fs with
        | [] => allA fun a _ => ((fs a none e.cls) (σ1.set i (some (.exn0 a e.cls))) h1).wipe i
        | [(f, d)] => allA fun a dd => ((fs a (some dd) e.cls) (σ1.set i (some (.exn1 a dd e.cls f d))) h1).wipe i
        | _ => .bad) else .bad
    | some false => .exc e σ1 h1
    | none => .bad
  | r => r
theorem PstS.unwipe {K : PySem.W.Frag} {mg : Str → Option Value} {W' : WX} {ρ : List Addr} {H : Hp} {D : Ends} {i : Nat} {r : RS} (p : PstS K mg W' ρ H D (r.wipe i)) :
    PstS K mg W0 ρ H { D with nx := fun σ H => D.nx (σ.set i none) H, bk := fun σ H => D.bk (σ.set i none) H, ct := fun σ H => D.ct (σ.set i none) H } r := by
  cases r with
  | nx σ4 h4 => exact fun ρ5 H5 τ5 g5 w5 s5 => p _ _ _ g5 w5 (s5.unset i)
  | rt d h4 => exact p
  | bk σ4 h4 => exact fun ρ5 H5 τ5 g5 w5 s5 => p _ _ _ g5 w5 (s5.unset i)
  | ct σ4 h4 => exact fun ρ5 H5 τ5 g5 w5 s5 => p _ _ _ g5 w5 (s5.unset i)
  | exc _ _ _ => exact p.elim
  | bad => exact p.elim
section
variable {X : Cx} {W : WX}
theorem ds_tryE {x n : Str} {body suite : List Stmt} {b₀ : Stmt} {np pos pos' : Pos} {fb : FS} {fs : Addr → Option Addr → Str → FS} {l : List (Str × Bool)} (i : Nat) (hN : X.N.Nodup) (tk : Takes X W) (hx : ∃ D, X.mg x = some (.ref D)) (hl : ExmL X.K X.mg x l)
    (hb : ∀ (W' : WX) (pn : List (Addr × Obj)) (xe : Value → Shared → Prop), Takes (X.tr pn xe) W' → PassesOwn (model X.prog X.w) X.A X.env xe → PSs (X.tr pn xe) body (rS X.K X.mg W' fb))
    (hsu : ∀ (a : Addr) (oe : Obj) (pn : List (Addr × Obj)) (C : Addr) (o : Option Addr) (y : Str), X.mg y = some (.ref C) → Zc (.ref C) o oe → (∃ vs, oe.data = .fields vs) → PSs (X.suite a ((a, oe) :: pn)) (b₀ :: suite) (rS X.K X.mg W0 (fs a o y)))
    (hi : X.N[i]? = some n := by rfl) (hln : X.env.kindOf n = some .local := by rfl)
    (hs : X.stack = X.env :: X.outer := by rfl) (hf : X.env.frame = some X.env.locals := by rfl) (hg : Gl X x := by rfl) (hdb : (x == ("__debug__" : Str)) = false := by decide) :
    PS X (.Try body [.ExceptHandler (some (.Name x np)) (some n) (b₀ :: suite) pos'] [] [] pos) (rS X.K X.mg W (dTryE fb l i fs)) := by
  obtain ⟨D0, gD⟩ := hx
  refine PS.weak (ps_try_as (tb := fun W' => rS X.K X.mg W' fb) (ts := fun a cls d D τ H => ∃ p : Str × Addr, (X.mg p.1 = some (.ref p.2) ∧ cls = .ref p.2) ∧ rS X.K X.mg W0 (fs a d p.1) D τ H) hs hf hN hi hln ⟨hg, hdb, .inl gD⟩ tk hb
    (fun a oe cls d pn hz hfl => PSs.ex (P := fun p : Str × Addr => X.mg p.1 = some (.ref p.2) ∧ cls = .ref p.2) fun p hp => by
      obtain ⟨g, rfl⟩ := hp
      exact hsu a oe pn p.2 d p.1 g hz hfl)) fun D τ H h => ?_
  obtain ⟨σ, dh, ρ, w, s, p⟩ := h
  refine ⟨σ, dh, ρ, w, s, ?_⟩
  unfold dTryE at p
  cases e : fb σ dh with
  | exc ev σ1 h1 =>
    simp only [e] at p
    intro ρ1 H1 τ1 c o g1 w1 s1 re
    obtain ⟨C, gC, rfl, rf⟩ := id re
    cases em : lookE ev.cls l with
    | none =>
      simp only [em] at p
      exact p.elim
    | some b =>
      obtain ⟨C2, D2, gC2, gD2, ee⟩ := hl.look em
      rw [gC] at gC2
      rw [gD] at gD2
      cases gC2
      cases gD2
      simp only [em] at p
      refine ⟨b, ee, fun hb2 a ha => ?_, fun hb2 => ?_⟩
      · subst hb2
        simp only at p
        split at p
        · rename_i hc
          refine ⟨(ev.cls, C), ⟨gC, rfl⟩, ?_⟩
          split at p
          · rename_i hfs
            have ho : o = none := by
              rcases rf with ⟨_, h⟩ | ⟨h, _⟩
              · exact h
              · exact absurd hfs h
            subst ho
            exact ⟨σ1.set i (some (.exn0 a ev.cls)), h1, ρ1, w1, s1.set .exn0 i, ((p.allA a a).unwipe).grow g1⟩
          · rename_i f d hfs
            rcases rf with ⟨h, _⟩ | ⟨_, dd, xs, rfl, hx, rx⟩
            · rw [hfs] at h
              cases h
            · rw [hfs] at rx
              cases rx with
              | cons h0 h1' =>
                cases h1'
                rename_i q
                obtain ⟨qf, qv⟩ := q
                obtain ⟨h0, h0r⟩ := h0
                dsimp only at h0 h0r
                subst h0
                exact ⟨σ1.set i (some (.exn1 a dd ev.cls f d)), h1, ρ1, w1, s1.set (.exn1 hx h0r) i, ((p.allA a dd).unwipe).grow g1⟩
          · exact p.elim
        · exact p.elim
      · subst hb2
        simp only at p
        exact p _ _ _ _ _ g1 w1 s1 re
  | nx σ1 h1 => simp only [e] at p; exact p
  | rt d h1 => simp only [e] at p; exact p
  | bk σ1 h1 => simp only [e] at p; exact p
  | ct σ1 h1 => simp only [e] at p; exact p
  | bad => simp only [e] at p; exact p

/-! ### n.f, isinstance(n, C) in the suite -/
def dXF (a : Addr) (o : Option Addr) (y : Str) (i : Nat) (f : Str) : FE := fun σ h => match getS σ i with
  | some (.exn1 a' dd c f' d) => if a' = a ∧ o = some dd ∧ c = y ∧ f' = f then .ok d h else .bad
  | _ => .bad
/-- a class whose instances' field f may be read -/
def XfIs (K : PySem.W.Frag) (mg : Str → Option Value) (x f : Str) : Prop := ∃ C, mg x = some (.ref C) ∧ XfC K C ∧ PySem.W.findIn K (.ref C) f = some none
inductive XfL (K : PySem.W.Frag) (mg : Str → Option Value) (f : Str) : List Str → Prop
  | nil : XfL K mg f []
  | cons {y : Str} {l : List Str} : XfIs K mg y f → XfL K mg f l → XfL K mg f (y :: l)
theorem XfL.mem {K : PySem.W.Frag} {mg : Str → Option Value} {f y : Str} : ∀ {l : List Str}, XfL K mg f l → l.contains y = true → XfIs K mg y f
  | _, .nil, h => by cases h
  | _, .cons h r, e => by
    rw [List.contains_cons, Bool.or_eq_true, beq_iff_eq] at e
    rcases e with e | e
    · rw [e]; exact h
    · exact r.mem e
def dXFl (l : List Str) (a : Addr) (o : Option Addr) (y : Str) (i : Nat) (f : Str) : FE := if l.contains y then dXF a o y i f else dBad
theorem rep_exn1 {K : PySem.W.Frag} {ρ : List Addr} {H : Hp} {a dd : Addr} {c f : Str} {d : D} {v : V} (r : Rep K ρ H (.exn1 a dd c f d) v) : v = .ref a ∧ ∃ u, H dd = some (.xd [(f, u)]) ∧ Rep K ρ H d u := by
  cases r with
  | exn1 h r => exact ⟨rfl, _, h, r⟩
theorem de_xf {a C : Addr} {oe : Obj} {o : Option Addr} {pn : List (Addr × Obj)} {x y f : Str} {pos p : Pos} {l : List Str} (i : Nat) (hl : XfL X.K X.mg f l) (gC : X.mg y = some (.ref C)) (hz : Zc (.ref C) o oe) (hf : ∃ vs, oe.data = .fields vs)
    (hN : X.N[i]? = some x := by rfl) (hv : Vis X.env.scope x := by first | exact Or.inl rfl | exact Or.inr (Or.inl rfl) | exact Or.inr (Or.inr rfl)) (hd : (x == ("__debug__" : Str)) = false := by decide)
    (hcd : (x == ("__classdict__" : Str)) = false := by decide) (hb : attributeBase (.Name x p) f X.env (eval (.Name x p) X.env) = eval (.Name x p) X.env := by rfl) :
    PE (X.suite a ((a, oe) :: pn)) (.Attribute (.Name x p) f pos) (rE X.K X.mg W (dXFl l a o y i f)) := by
  by_cases hm : l.contains y = true
  · obtain ⟨C2, gC2, T, hno⟩ := hl.mem hm
    rw [gC] at gC2
    cases gC2
    refine PE.weak (pe_xf T hno hz hf (pe_var (X := X.suite a ((a, oe) :: pn)) (i := i) hN hv hd hcd) hb) fun τ H Q r => ?_
    unfold dXFl at r
    rw [if_pos hm] at r
    obtain ⟨σ, dh, ρ, w, s, p⟩ := r
    unfold dXF getS at p
    cases e : σ[i]? with
    | none => simp only [e] at p; exact p.elim
    | some z =>
      cases z with
      | none => simp only [e] at p; exact p.elim
      | some d =>
        simp only [e] at p
        cases d <;> first | (exact p.elim) | skip
        simp only at p
        split at p
        · rename_i q
          obtain ⟨rfl, rfl, rfl, rfl⟩ := q
          obtain ⟨v, h1, h2⟩ := s.get e
          obtain ⟨rfl, u, hu, ru⟩ := rep_exn1 h2
          exact ⟨_, h1, rfl, rfl, _, _, u, rfl, hu, by simp [List.lookup], p _ _ _ (Grow.refl _ _) w ru⟩
        · exact p.elim
  · refine ⟨fun pins s σ H Q I r => ?_⟩
    unfold dXFl at r
    rw [if_neg hm] at r
    obtain ⟨_, _, _, _, _, p⟩ := r
    exact p.elim
/-- isinstance(n, c): the class asked for -/
def KitIs (K : PySem.W.Frag) (mg : Str → Option Value) (y : Str) (cv : Value) (b : Bool) : Prop := ∃ C, mg y = some (.ref C) ∧ ExcC K C ∧ PySem.W.kitOne K (.ref C) cv = some b
inductive KitL (K : PySem.W.Frag) (mg : Str → Option Value) (cv : Value) : List (Str × Bool) → Prop
  | nil : KitL K mg cv []
  | cons {y : Str} {b : Bool} {l : List (Str × Bool)} : KitIs K mg y cv b → KitL K mg cv l → KitL K mg cv ((y, b) :: l)
theorem KitL.look {K : PySem.W.Frag} {mg : Str → Option Value} {cv : Value} {y : Str} {b : Bool} : ∀ {l : List (Str × Bool)}, KitL K mg cv l → lookE y l = some b → KitIs K mg y cv b
  | _, .nil, e => by cases e
  | (z, c) :: l, .cons h r, e => by
    unfold lookE at e
    split at e
    · rename_i q
      subst q
      cases e
      exact h
    · exact r.look e
/-- .. an own class -/
def KitC (K : PySem.W.Frag) (mg : Str → Option Value) (y z : Str) (b : Bool) : Prop := ∃ C D, mg y = some (.ref C) ∧ mg z = some (.ref D) ∧ ExcC K C ∧ PySem.W.kitOne K (.ref C) (.ref D) = some b
inductive KitCL (K : PySem.W.Frag) (mg : Str → Option Value) (z : Str) : List (Str × Bool) → Prop
  | nil : KitCL K mg z []
  | cons {y : Str} {b : Bool} {l : List (Str × Bool)} : KitC K mg y z b → KitCL K mg z l → KitCL K mg z ((y, b) :: l)
theorem KitCL.kit {K : PySem.W.Frag} {mg : Str → Option Value} {z : Str} {D : Addr} (gD : mg z = some (.ref D)) : ∀ {l : List (Str × Bool)}, KitCL K mg z l → KitL K mg (.ref D) l
  | _, .nil => .nil
  | _, .cons ⟨C, D2, g1, g2, h, k⟩ r => by
    rw [gD] at g2
    cases g2
    exact .cons ⟨C, g1, h, k⟩ (r.kit gD)
theorem kit_at {K : PySem.W.Frag} {mg : Str → Option Value} {z : Str} {l : List (Str × Bool)} (hD : ∃ D, mg z = some (.ref D)) (h : KitCL K mg z l) : ∃ D, mg z = some (.ref D) ∧ KitL K mg (.ref D) l := by
  obtain ⟨D, g⟩ := hD
  exact ⟨D, g, h.kit g⟩
def dXI (l : List (Str × Bool)) (a : Addr) (o : Option Addr) (y : Str) (i : Nat) : FE := fun σ h => match getS σ i with
  | some (.exn0 a' c) => if a' = a ∧ o = none ∧ c = y then (match lookE y l with
    | some b => .ok (.bl b) h
    | none => .bad) else .bad
  | some (.exn1 a' dd c _ _) => if a' = a ∧ o = some dd ∧ c = y then (match lookE y l with
    | some b => .ok (.bl b) h
    | none => .bad) else .bad
  | _ => .bad
/-- the same asked of an error that has fields -/
def rIsF (K : PySem.W.Frag) (D a dd : Addr) : List V → Hp → VK → Prop := fun xs H Q => ∃ (c : V) (cv : Value) (b : Bool) (fs : List (Str × V)), xs = [.ref a, c] ∧ (∀ u, RelV c u → u = cv) ∧ PySem.W.kitOne K (.ref D) cv = some b ∧ H dd = some (.xd fs) ∧ Q (.bl b) H
theorem call_isF {X : Cx} {a D dd : Addr} {oe : Obj} {pn : List (Addr × Obj)} (T : ExcC X.K D) (hz : Zc (.ref D) (some dd) oe) (hf : ∃ vs, oe.data = .fields vs) : CallR (X.suite a ((a, oe) :: pn)) (.builtin "isinstance") (rIsF X.K D a dd) := by
  intro pins s σ H xs us Q I r h
  obtain ⟨c, cv, b, fs, rfl, hcv, hk, hdd, q⟩ := h
  rcases r with _ | ⟨r1, r2⟩
  rcases r2 with _ | ⟨r2, r3⟩
  cases r3
  cases r1
  have hu := hcv _ r2
  subst hu
  have hp := (I.pin (a, oe) (List.mem_append.mpr (.inl List.mem_cons_self))).1
  obtain ⟨mA, hns, _⟩ : ObjOk X.prog X.w H s.heap dd (.xd fs) := I.hok dd _ hdd
  obtain ⟨od, ho, _⟩ := lookIn_ns hns
  have J : PySem.W.InstAt s.heap a oe D (some od) := by
    refine ⟨hp, hz.1, ?_, by rw [hz.2]; exact ho⟩
    obtain ⟨vs, hv⟩ := hf
    unfold PySem.W.notCls
    rw [hv] <;> rfl
  have hcl : (PySem.W.clsIn X.K D).isSome = true := by
    obtain ⟨cd, hc, _⟩ := PySem.W.any_some T.hd
    rw [hc]
    rfl
  exact PySem.W.kia_one (PySem.W.kitx_exc hcl T.hg T.hk T.hs T.ha T.hn T.ht T.hm) I.kIn J hk (fun z => nomatch z) fun tk => ⟨.bl b, H, I.kept (t' := tk) fun _ _ z => z, rfl, q⟩
theorem rep_exn0 {K : PySem.W.Frag} {ρ : List Addr} {H : Hp} {a : Addr} {c : Str} {v : V} (r : Rep K ρ H (.exn0 a c) v) : v = .ref a := by
  cases r
  rfl
theorem dxi_run {a C : Addr} {oe : Obj} {o : Option Addr} {pn : List (Addr × Obj)} {x y : Str} {p1 p2 pos : Pos} {l : List (Str × Bool)} {cv : Value} {c : V} {ce : Expr} (i : Nat) (hm : X.mg "isinstance" = none) (hl : KitL X.K X.mg cv l) (hu : ∀ u, RelV c u → u = cv) (gC : X.mg y = some (.ref C)) (hz : Zc (.ref C) o oe) (hf : ∃ vs, oe.data = .fields vs)
    (hce : PE (X.suite a ((a, oe) :: pn)) ce (fun σ H Q => Q c H))
    (hN : X.N[i]? = some x) (hv : Vis X.env.scope x) (hd : (x == ("__debug__" : Str)) = false) (hcd : (x == ("__classdict__" : Str)) = false) (hg : Gl X "isinstance")
    (hs : starEach (.Name x p1 :: [ce]) X.env = (false, eval (.Name x p1) X.env) :: starEach [ce] X.env) (hs2 : starEach [ce] X.env = (false, eval ce X.env) :: starEach [] X.env) (hpl : (backTo pos (starEach [ce] X.env)).any (·.1) = false) :
    PE (X.suite a ((a, oe) :: pn)) (.Call (.Name "isinstance" p2) [.Name x p1, ce] [] pos) (rE X.K X.mg W (dXI l a o y i)) := by
  refine ⟨fun pins s τ H Q I r => ?_⟩
  obtain ⟨σ, dh, ρ, w, sσ, p⟩ := r
  unfold dXI getS at p
  cases e : σ[i]? with
  | none => simp only [e] at p; exact p.elim
  | some z =>
    cases z with
    | none => simp only [e] at p; exact p.elim
    | some d =>
      simp only [e] at p
      cases d <;> first | (exact p.elim) | skip
      · simp only at p
        split at p
        · rename_i q
          obtain ⟨rfl, rfl, rfl⟩ := q
          split at p
          · rename_i b hb
            obtain ⟨C2, gC2, T, hk⟩ := hl.look hb
            rw [gC] at gC2
            cases gC2
            obtain ⟨v, h1, h2⟩ := sσ.get e
            have hv2 := rep_exn0 h2
            subst hv2
            refine (pe_callB (X := X.suite _ ((_, oe) :: pn)) (call_isE T hz hf) hg hm (by decide +kernel) (pa_cons (pe_var (X := X.suite _ ((_, oe) :: pn)) (i := i) hN hv hd hcd) (pa_cons hce pa_nil hs2) hs) (by decide) (by decide) hs hpl).run pins s τ H Q I ?_
            exact ⟨_, h1, c, cv, b, rfl, hu, hk, p _ _ _ (Grow.refl _ _) w (.bl b)⟩
          · exact p.elim
        · exact p.elim
      · simp only at p
        split at p
        · rename_i q
          obtain ⟨rfl, rfl, rfl⟩ := q
          split at p
          · rename_i b hb
            obtain ⟨C2, gC2, T, hk⟩ := hl.look hb
            rw [gC] at gC2
            cases gC2
            obtain ⟨v, h1, h2⟩ := sσ.get e
            obtain ⟨hv2, u, hu1, _⟩ := rep_exn1 h2
            subst hv2
            refine (pe_callB (X := X.suite _ ((_, oe) :: pn)) (call_isF T hz hf) hg hm (by decide +kernel) (pa_cons (pe_var (X := X.suite _ ((_, oe) :: pn)) (i := i) hN hv hd hcd) (pa_cons hce pa_nil hs2) hs) (by decide) (by decide) hs hpl).run pins s τ H Q I ?_
            exact ⟨_, h1, c, cv, b, _, rfl, hu, hk, hu1, p _ _ _ (Grow.refl _ _) w (.bl b)⟩
          · exact p.elim
        · exact p.elim
/-- isinstance(n, C), C an own class -/
theorem de_xi {a C : Addr} {oe : Obj} {o : Option Addr} {pn : List (Addr × Obj)} {x y z : Str} {p1 p2 p3 pos : Pos} {l : List (Str × Bool)} (i : Nat) (hm : X.mg "isinstance" = none) (hl : ∃ D, X.mg z = some (.ref D) ∧ KitL X.K X.mg (.ref D) l) (gC : X.mg y = some (.ref C)) (hz : Zc (.ref C) o oe) (hf : ∃ vs, oe.data = .fields vs)
    (hN : X.N[i]? = some x := by rfl) (hv : Vis X.env.scope x := by first | exact Or.inl rfl | exact Or.inr (Or.inl rfl) | exact Or.inr (Or.inr rfl)) (hd : (x == ("__debug__" : Str)) = false := by decide)
    (hcd : (x == ("__classdict__" : Str)) = false := by decide) (hg : Gl X "isinstance" := by rfl) (hgz : Gl X z := by rfl) (hdz : (z == ("__debug__" : Str)) = false := by decide)
    (hs : starEach (.Name x p1 :: [.Name z p3]) X.env = (false, eval (.Name x p1) X.env) :: starEach [.Name z p3] X.env := by rfl) (hs2 : starEach [.Name z p3] X.env = (false, eval (.Name z p3) X.env) :: starEach [] X.env := by rfl) (hpl : (backTo pos (starEach [.Name z p3] X.env)).any (·.1) = false := by rfl) :
    PE (X.suite a ((a, oe) :: pn)) (.Call (.Name "isinstance" p2) [.Name x p1, .Name z p3] [] pos) (rE X.K X.mg W (dXI l a o y i)) := by
  obtain ⟨D, gD, hl⟩ := hl
  exact dxi_run (c := .ref D) i hm hl (fun u h => h) gC hz hf (pe_glob (X := X.suite a ((a, oe) :: pn)) (v := .ref D) hgz gD rfl hdz) hN hv hd hcd hg hs hs2 hpl
/-- isinstance(n, T), T a built-in error -/
theorem de_xiB {a C : Addr} {oe : Obj} {o : Option Addr} {pn : List (Addr × Obj)} {x y z : Str} {T : String} {p1 p2 p3 pos : Pos} {l : List (Str × Bool)} (i : Nat) (hm : X.mg "isinstance" = none) (hz0 : X.mg z = none) (hl : KitL X.K X.mg (.type T) l) (gC : X.mg y = some (.ref C)) (hz : Zc (.ref C) o oe) (hf : ∃ vs, oe.data = .fields vs)
    (hN : X.N[i]? = some x := by rfl) (hv : Vis X.env.scope x := by first | exact Or.inl rfl | exact Or.inr (Or.inl rfl) | exact Or.inr (Or.inr rfl)) (hd : (x == ("__debug__" : Str)) = false := by decide)
    (hcd : (x == ("__classdict__" : Str)) = false := by decide) (hg : Gl X "isinstance" := by rfl) (hgz : Gl X z := by rfl) (hdz : (z == ("__debug__" : Str)) = false := by decide) (hy : bootBuiltins z = some (.type T) := by decide +kernel) (hn : z ≠ "__name__" := by decide)
    (hs : starEach (.Name x p1 :: [.Name z p3]) X.env = (false, eval (.Name x p1) X.env) :: starEach [.Name z p3] X.env := by rfl) (hs2 : starEach [.Name z p3] X.env = (false, eval (.Name z p3) X.env) :: starEach [] X.env := by rfl) (hpl : (backTo pos (starEach [.Name z p3] X.env)).any (·.1) = false := by rfl) :
    PE (X.suite a ((a, oe) :: pn)) (.Call (.Name "isinstance" p2) [.Name x p1, .Name z p3] [] pos) (rE X.K X.mg W (dXI l a o y i)) :=
  dxi_run (c := .ty T) i hm hl (fun u h => h) gC hz hf (pe_bltn (X := X.suite a ((a, oe) :: pn)) (v := .ty T) hgz hz0 hy rfl hn hdz) hN hv hd hcd hg hs hs2 hpl
end
/-! ### evaluating -/
@[simp] theorem dRaiseF_ap {x f : Str} {fe : FE} {σ : DE} {h : DH} : dRaiseF x f fe σ h = dThen fe (fun v σ h => .exc ⟨x, [(f, v)]⟩ σ h) σ h := (rfl)
@[simp] theorem dXFl_at {l : List Str} {a dd : Addr} {y f : Str} {i : Nat} {σ : DE} {h : DH} {d : D} (e : getS σ i = some (.exn1 a dd y f d)) (hm : l.contains y = true) : dXFl l a (some dd) y i f σ h = .ok d h := by
  unfold dXFl dXF
  rw [if_pos hm]
  simp only [e, and_self, if_true]
@[simp] theorem dXI_at {l : List (Str × Bool)} {a : Addr} {y : Str} {i : Nat} {σ : DE} {h : DH} {b : Bool} (e : getS σ i = some (.exn0 a y)) (hm : lookE y l = some b) : dXI l a none y i σ h = .ok (.bl b) h := by
  unfold dXI
  simp only [e, and_self, if_true, hm]
@[simp] theorem dXI_at1 {l : List (Str × Bool)} {a dd : Addr} {y f : Str} {d : D} {i : Nat} {σ : DE} {h : DH} {b : Bool} (e : getS σ i = some (.exn1 a dd y f d)) (hm : lookE y l = some b) : dXI l a (some dd) y i σ h = .ok (.bl b) h := by
  unfold dXI
  simp only [e, and_self, if_true, hm]
end DL

/-! The data layer: tuples of the module's top; parallel assignment; min of tuples. -/
namespace DL
open PySem PySem.Spec L2
open PyProof.Rows hiding St
/-! ### a module's constant that is a flat tuple -/
def absL : List D → Option (List V)
  | [] => some []
  | d :: ds => match absD d, absL ds with
    | some v, some vs => some (v :: vs)
    | _, _ => none
theorem absL_rep {ρ : List Addr} {K : PySem.W.Frag} {H : Hp} : ∀ {ds : List D} {vs : List V}, absL ds = some vs → RepL K ρ H ds vs
  | [], _, e => by
    cases e
    exact .nil
  | d :: ds, vs, e => by
    unfold absL at e
    split at e
    · rename_i v us h1 h2
      cases e
      exact .cons (absD_rep h1 _ _) (absL_rep h2)
    · cases e
def TupC (K : PySem.W.Frag) (mg : Str → Option Value) (x : Str) (ds : List D) : Prop :=
  ∃ (a : Addr) (its : Array Value) (n : Nat) (sl : Array (Option Value)) (vs : List V), mg x = some (.ref a) ∧ K.lookup a = some ⟨.type "tuple", none, .seq its n, sl⟩ ∧ its.size ≤ sizeLine ∧ absL ds = some vs ∧ Vals vs its.toList
theorem de_globT {X : Cx} {W : WX} {x : Str} {ds : List D} {pos : Pos} (h : TupC X.K X.mg x ds) (hg : Gl X x := by rfl) (hd : (x == ("__debug__" : Str)) = false := by decide) : PE X (.Name x pos) (rE X.K X.mg W (dC (.tup ds))) := by
  obtain ⟨a, its, n, sl, vs, gm, hl, hs, ha, hv⟩ := h
  refine PE.weak (pe_glob (v := .ref a) hg gm rfl hd) fun τ H Q r => ?_
  obtain ⟨σ, dh, ρ, w, s, p⟩ := r
  exact p _ _ _ (Grow.refl _ _) w (.tup (.inr ⟨_, its, n, hl, rfl, rfl, rfl, hs, hv⟩) (absL_rep ha))
/-! ### lists of flags -/
theorem toPs_bools (h : DH) (n : Nat) : ∀ l : List Bool, toPs h (n + 1) (l.map D.bl) = some (l.map PyData.bool)
  | [] => by rw [List.map_nil, toPs]; rfl
  | a :: l => by rw [List.map_cons, toPs, toPs_bools h n l, toP]; rfl
theorem eqv_bools : ∀ l m : List Bool, PyData.eqvAll (l.map PyData.bool) (m.map PyData.bool) = decide (l = m)
  | [], [] => by simp [PyData.eqvAll]
  | [], b :: m => by simp [PyData.eqvAll]
  | a :: l, [] => by simp [PyData.eqvAll]
  | a :: l, b :: m => by
    rw [List.map_cons, List.map_cons, PyData.eqvAll, PyData.eqv, eqv_bools l m]
    by_cases e : a = b <;> by_cases f : l = m <;> simp [e, f]
theorem canLay_bools : ∀ l : List Bool, PyData.canLayAll0 (l.map PyData.bool) = true
  | [] => by simp [PyData.canLayAll0]
  | a :: l => by rw [List.map_cons, PyData.canLayAll0, PyData.canLay0, canLay_bools l]; rfl
theorem depth_bools : ∀ l : List Bool, PyData.depthAll (l.map PyData.bool) ≤ 1
  | [] => by simp [PyData.depthAll]
  | a :: l => by
    have := depth_bools l
    rw [List.map_cons, PyData.depthAll, PyData.depth]
    omega
theorem shaped_bools (l : List Bool) : SeqAt.shaped (.list (l.map PyData.bool)) = true := by
  have := depth_bools l
  simp [SeqAt.shaped, PyData.canLay0, canLay_bools, PyData.depth]
  omega
theorem peq_bools {h : DH} {n m : Nat} {l l2 : List Bool} (e1 : h[n]? = some (.lst (l.map D.bl))) (e2 : h[m]? = some (.lst (l2.map D.bl))) : peq h (.ref n) (.ref m) = some (decide (l = l2)) := by
  have t : ∀ (k : Nat) (l : List Bool), h[k]? = some (.lst (l.map D.bl)) → toP h 66 (.ref k) = some (.list (l.map PyData.bool)) := fun k l e => by
    rw [toP, e]
    simp only
    rw [toPs_bools h 64 l]
    rfl
  unfold peq
  rw [t n l e1, t m l2 e2]
  simp only
  rw [if_pos ⟨shaped_bools l, shaped_bools l2⟩, PyData.eqv, eqv_bools]
theorem oEq_bools {h : DH} {n m : Nat} {l l2 : List Bool} (e1 : h[n]? = some (.lst (l.map D.bl))) (e2 : h[m]? = some (.lst (l2.map D.bl))) : oEq (.ref n) (.ref m) h = .ok (.bl (decide (l = l2))) h := by
  unfold oEq
  rw [show scalD (.ref n) (.ref m) = none from rfl, peq_bools e1 e2]
theorem oNe_bools {h : DH} {n m : Nat} {l l2 : List Bool} (e1 : h[n]? = some (.lst (l.map D.bl))) (e2 : h[m]? = some (.lst (l2.map D.bl))) : oNe (.ref n) (.ref m) h = .ok (.bl (!decide (l = l2))) h := by
  unfold oNe
  rw [show scalD (.ref n) (.ref m) = none from rfl, peq_bools e1 e2]
/-- a loop that may hand back at a turn: the first turn with P i; the heap grows -/
theorem for_firstG {α : Type} {keep : DH → Prop} {gg : DG} {b : FS} {ds : List D} (E : Nat → α → DE) (H : α → DH) (hk : ∀ a, keep (H a)) (P : Nat → Prop) [DecidablePred P] (R : Nat → D)
    (hs : ∀ i d a, ds[i]? = some d → (∀ j, j < i → ¬ P j) → ∃ σ1, gg d (E i a) = some σ1 ∧ (P i → ∃ a', b σ1 (H a) = .rt (R i) (H a')) ∧ (¬ P i → ∃ a', b σ1 (H a) = .nx (E (i + 1) a') (H a') ∨ b σ1 (H a) = .ct (E (i + 1) a') (H a'))) (a : α) :
    (∃ i a', i < ds.length ∧ P i ∧ (∀ j, j < i → ¬ P j) ∧ forL keep gg b ds (E 0 a) (H a) = .rt (R i) (H a')) ∨ ((∀ j, j < ds.length → ¬ P j) ∧ ∃ a', forL keep gg b ds (E 0 a) (H a) = .nx (E ds.length a') (H a')) := by
  have key := for_at (keep := keep) (gg := gg) (b := b) (ds := ds) (fun i σ h' => i ≤ ds.length ∧ (∀ j, j < i → ¬ P j) ∧ ∃ a, σ = E i a ∧ h' = H a)
    (fun r => (∃ i a', i < ds.length ∧ P i ∧ (∀ j, j < i → ¬ P j) ∧ r = .rt (R i) (H a')) ∨ ((∀ j, j < ds.length → ¬ P j) ∧ ∃ a', r = .nx (E ds.length a') (H a')))
    (fun σ h' ⟨_, no, a, ea, eh⟩ => by
      subst ea eh
      exact ⟨hk a, .inr ⟨no, a, rfl⟩⟩)
    (fun i d σ h' hd ⟨le, no, a, ea, eh⟩ => by
      subst ea eh
      obtain ⟨σ1, h1, h2, h3⟩ := hs i d a hd no
      have il := (List.getElem?_eq_some_iff.mp hd).1
      refine ⟨hk a, σ1, h1, ?_⟩
      by_cases p : P i
      · obtain ⟨a', e⟩ := h2 p
        exact .inr (.inl ⟨R i, _, e, .inl ⟨i, a', il, p, no, rfl⟩⟩)
      · obtain ⟨a', e⟩ := h3 p
        exact .inl ⟨E (i + 1) a', _, e, by omega, fun j hj => by
          by_cases q : j = i
          · rw [q]; exact p
          · exact no j (by omega), a', rfl, rfl⟩)
  exact key (E 0 a) (H a) ⟨Nat.zero_le _, fun j hj => absurd hj (by omega), a, rfl, rfl⟩
theorem inY_tup {x : D} {ds : List D} (h : DH) (hx : flatD x = true) (hd : ds.all flatD = true) : oInY x (.tup ds) h = .ok (.bl (ds.any fun d => eqF d x)) h := oInY_old (by simp only [inD, hx, hd, and_self, if_true])
@[simp] theorem has_dic_lst : TN.dic.has .lst = some false := rfl
@[simp] theorem has_dic_non : TN.dic.has .non = some false := rfl
@[simp] theorem has_dic_bl : TN.dic.has .bl = some false := rfl
@[simp] theorem has_dic_int : TN.dic.has .int = some false := rfl
@[simp] theorem has_dic_str : TN.dic.has .str = some false := rfl
@[simp] theorem has_dic_tup : TN.dic.has .tup = some false := rfl
@[simp] theorem has_dic_dic : TN.dic.has .dic = some true := rfl
end DL

/-! The data layer: == of a dict and a number. -/
namespace PySem.SeqAt
open AutoSeq1 (wpAny_loadPart')
open MeetsSeq
theorem num_no_dict (b : Int) (u : Tok) (l : Addr) (c : Value) (es : Array DictEntry) (ep : Nat) (dd : Option Addr) (sl : Array (Option Value)) :
    Meets (Builtin.«int.__eq__» ⟨[.int b u, .ref l], []⟩) (fun _ R s => s.heap.get? l = some ⟨c, dd, .dict es ep, sl⟩ ∧ R (.ok (.ret .notImplemented)) s) :=
  .of_wp fun prog w A R s h => by
    obtain ⟨hp, g, d, tk, os⟩ := s
    obtain ⟨hl, h⟩ := h
    wp_walk using wpAny_loadPart' hl, wpAny_load hl
    exact ⟨_, rfl, h⟩
end PySem.SeqAt
namespace DL
open PySem PySem.Spec L2
open PyProof.Rows hiding St
def rEqU : R2 := fun x y H Q => ∃ (a : Addr) (ks : List (Key × V)) (i : Int), x = .ref a ∧ y = .int i ∧ H a = some (.dK ks) ∧ Q (.bl false) H
theorem op_eqDI {X : Cx} (hu : X.A.units < cLine) : OpR X (compareOp .Eq) rEqU := by
  intro pins s σ H x y v u Q I rx ry h
  obtain ⟨a, ks, i, rfl, rfl, ea, q⟩ := h
  obtain rfl : v = Value.ref a := rx
  obtain ⟨t, rfl⟩ : ∃ t, u = .int i t := ry
  obtain ⟨_, ya, va, ra, da⟩ := (show ObjOk X.prog X.w H s.heap a (.dK ks) from I.hok a _ ea)
  have ty := da.typeIs
  obtain ⟨⟨oc, od, odt, osl⟩, es, ep, ho, _, hd, _⟩ := id da
  simp only at hd
  subst hd
  show wpAny _ _ (richCompare .Eq _ _) _ _ _
  refine PySem.SeqAt.rc_eq_decline_or (k := false) ty (typeIs_int s i t) (by decide) F.sub_int_dict F.slot_dict_eq F.slot_int_eq_refl (fun Q' hq => ?_)
    (fun _ hq => call_meets F.slot_int_eq_refl (typeIs_int s i t) F.entry_int_eq (F.args_int_eq_2 _ _) (PySem.SeqAt.num_no_dict i t a _ es ep od osl) ⟨ho, hq⟩)
    (fun _ hq => wpAny_of_eq (rfl : isSame (.ref a) (.int i t) = pure false) hq) (.inr hu) (fin_bl I q rfl)
  refine wpAny_call_entry F.slot_dict_eq ty F.entry_dict_eq ?_ (F.args_dict_eq_2 _ _)
  show wpAny _ _ (Builtin.Dict.dictSlotArgs "__eq__" ⟨[.ref a, .int i t], []⟩ >>= _) _ _ s
  unfold Builtin.Dict.dictSlotArgs
  refine wpAny_bind (wpAny_bind (PySem.wpAny_notOrdered_dict ty ?_))
  show wpAny _ _ (pure (Value.ref a, Value.int i t)) _ _ s
  refine wpAny_pure (wpAny_bind (wpAny_isInstance (T := "int") (typeIs_int s i t) F.sub_int_dict ?_))
  simp only [Bool.not_false, if_true]
  refine wpAny_bind (wpAny_rule ?_)
  first | exact wpAny_pure ⟨_, rfl, hq⟩ | exact wpAny_bind (wpAny_pure (wpAny_pure ⟨_, rfl, hq⟩)) | done
/-! ### the data -/
def dicI (h : DH) : D → D → Bool
  | .ref n, .int _ => match h[n]? with
    | some (.dic _) => true
    | _ => false
  | _, _ => false
def oEqU (x y : D) (h : DH) : Res D := if dicI h x y = true then .ok (.bl false) h else oEq x y h
def rEqV (K : PySem.W.Frag) : R2 := fun x y H Q => rEqU x y H Q ∨ rEqX K x y H Q
theorem op_eqV {X : Cx} (hu : X.A.units + 64 < cLine) : OpR X (compareOp .Eq) (rEqV X.K) := OpR.or (op_eqDI (by omega)) (op_eqX hu)
theorem os_eqV {K : PySem.W.Frag} {mg : Str → Option Value} : OpS K mg (rEqV K) oEqU := by
  intro ρ dh H x y v u Q W τ w rx ry p
  unfold oEqU at p
  split at p
  · rename_i e
    unfold dicI at e
    split at e
    · split at e
      · rename_i hk
        cases ry
        cases rx with
        | ref ha =>
          obtain ⟨ks, hx, _⟩ : ∃ ks, H _ = some (.dK ks) ∧ RepK K ρ H _ ks := w.cellAt hk ha
          exact .inl ⟨_, ks, _, rfl, rfl, hx, same_val w (.bl _) p⟩
      · cases e
    · cases e
  · exact .inr (os_eq ρ dh H x y v u Q W τ w rx ry p)
theorem oEqU_no {x y : D} {h : DH} (e : dicI h x y = false) : oEqU x y h = oEq x y h := if_neg (by rw [e]; decide)
end DL

/-! The data layer: several except clauses, with and without names. -/
namespace DL
open PySem PySem.Spec L2
open PyProof.Rows hiding St

/-- the ends behind a clause that has a name: the name goes -/
def endsW (o : Option Nat) (D : Ends) : Ends := match o with
  | none => D
  | some i => { nx := fun σ' H' => D.nx (σ'.set i none) H', rt := D.rt, bk := fun σ' H' => D.bk (σ'.set i none) H', ct := fun σ' H' => D.ct (σ'.set i none) H' }
def stW (o : Option Nat) (a : Addr) (σ : L2.St) : L2.St := match o with
  | none => σ
  | some i => σ.set i (some (.ref a))
abbrev ClQ := Value × Option Nat × (Addr → Value → Option Addr → TS)
def wGen (K : PySem.W.Frag) (Wout : WX) (D : Ends) : List ClQ → WX
  | [] => Wout
  | (c, o, ts) :: r => fun cls d σ H => ∃ b, PySem.W.exmOne K cls c = some b ∧ (b = true → ∀ a, H a = none → ts a cls d (endsW o D) (stW o a σ) H) ∧ (b = false → wGen K Wout D r cls d σ H)
/-- an exception that has come to the clauses of X's try: sI is the state without it, s the one with it -/
structure Come (X : Cx) (pins : List (Addr × Obj)) (τ : L2.St) (H : Hp) (a : Addr) (cls : Value) (d : Option Addr) (B : Heap) (sI s : Shared) : Prop where
  inv : Inv X pins τ H sI
  old : ∀ (k : Addr) (o : Obj), sI.heap.get? k = some o → k ∉ frs X.stack → B.get? k = some o
  up : sI.heap.UpToSlots s.heap
  fly : HandSPX.FlyingZ B (X.env :: X.outer) a (Zc cls d) s.heap
  new : H a = none
  os : s.os = sI.os
  bare : AllBare s.gens
section
variable {X : Cx} {pins : List (Addr × Obj)} {τ : L2.St} {H : Hp} {a : Addr} {cls : Value} {d : Option Addr} {B : Heap} {sI s : Shared}
theorem Come.on (m : Come X pins τ H a cls d B sI s) {g : Heap} (f : HandSPX.FlyingZ B (X.env :: X.outer) a (Zc cls d) g) (u : s.heap.UpToSlots g) : Come X pins τ H a cls d B sI { s with heap := g } :=
  ⟨m.inv, m.old, m.up.trans u, f, m.new, m.os, m.bare⟩
theorem Come.now (m : Come X pins τ H a cls d B sI s) : Inv X pins τ H s := m.inv.landed m.old m.fly.1 m.up m.os m.bare
/-- the world of a suite -/
theorem Come.suite (m : Come X pins τ H a cls d B sI s) (hf : X.env.frame = some X.env.locals) : ∃ oe, s.heap.get? a = some oe ∧ Zc cls d oe ∧ (∃ vs, oe.data = .fields vs) ∧ Inv (X.suite a ((a, oe) :: (X.pn ++ pins))) [] τ H s := by
  obtain ⟨oe, vs, e1, z1, d1⟩ := m.fly.there
  have out : a ∉ frs (X.env :: X.outer) := fun hm => by
    obtain ⟨_, o2, e2, n2⟩ := m.fly.2.2.1.mem hm
    rw [e1] at e2
    cases e2
    exact n2 _ d1
  have notL : a ≠ X.env.locals := fun z => out (List.mem_filterMap.mpr ⟨_, List.mem_cons_self, hf.trans (congrArg some z.symm)⟩)
  have notF : a ∉ X.fs := fun hm => by
    obtain ⟨v, v1, v2⟩ := List.mem_filterMap.mp hm
    exact out (List.mem_filterMap.mpr ⟨v, List.mem_cons_of_mem _ v1, v2⟩)
  exact ⟨oe, e1, z1, ⟨vs, d1⟩, m.now.suite e1 d1 m.new notL notF⟩
/-- no clause is left: it goes on -/
theorem Come.gone (m : Come X pins τ H a cls d B sI s) (hs : X.stack = X.env :: X.outer) (hf : X.env.frame = some X.env.locals) {W : WX} (tk : Takes X W) (w : W cls d τ H) {Q : Flow → Shared → Prop} :
    wpAny (model X.prog X.w) X.A (handleBy (.ref a) X.env []) Q X.xe s := by
  refine wpAny_handleBy_nil ?_
  have land : wpAny (model X.prog X.w) X.A (setFlight (.ref a) X.env.frame) (fun _ z => wpAny (model X.prog X.w) X.A (throw (.ref a) : Sem Flow) Q X.xe z) X.xe s := by
    rw [hf]
    exact HandSPX.setFlight_upZ m.fly fun g held u => wpAny_throw (tk _ _ ⟨a, B, sI, pins, τ, H, cls, d, rfl, m.inv, m.old, m.up.trans u, .inr (.inr (hs ▸ held)), m.new, m.os, m.bare, w⟩)
  obtain ⟨_, _, _, o, vs, T, _, _, e1, _, d1, t1, _⟩ := id m.fly
  unfold PySem.passOn
  refine wpAny_bind (wpAny_field e1 d1 t1 ?_)
  rw [if_neg (by intro z; cases z)]
  first
    | exact wpAny_bind (wpAny_pure (wpAny_bind land))
    | exact wpAny_bind land
/-- a clause's test -/
theorem Come.test (m : Come X pins τ H a cls d B sI s) (hf : X.env.frame = some X.env.locals) {x : Str} {np : Pos} {c : Value} {b : Bool} (hc : Names X x c) (hb : PySem.W.exmOne X.K cls c = some b) {Q : Bool → Shared → Prop} {E E' : Value → Shared → Prop} (q : Q b s) :
    wpAny (model X.prog X.w) (X.A.mark (some (.ref a))) (eval (.Name x np) X.env) (fun v z => wpAny (model X.prog X.w) (X.A.mark (some (.ref a))) (excMatches (.ref a) v) Q E z) E' s := by
  obtain ⟨oe, e1, z1, _, I⟩ := m.suite hf
  have ty : PySem.W.Looks (model X.prog X.w) s.heap (typeOf (.ref a)) cls := fun _ _ _ _ k r => wpAny_typeOf_ref (k _ _ e1) (by rw [z1.1]; exact r)
  have hit := (PySem.W.exm_one (M := model X.prog X.w) m.now.kIn ty hb).here (A := X.A.mark (some (.ref a))) (E := E) q
  obtain ⟨g1, g2, own | ⟨no, blt, nn⟩⟩ := hc
  · exact ld_glob (X := X.suite a ((a, oe) :: (X.pn ++ pins))) I g1 own hit g2
  · exact ld_blt (X := X.suite a ((a, oe) :: (X.pn ++ pins))) I g1 no blt hit nn g2
/-- behind a suite without a name -/
theorem suite_out {D : Ends} {oe : Obj} (ok : X.Ok) {f : Flow} {z : Shared} (h : SP (X.suite a ((a, oe) :: (X.pn ++ pins))) [] D f z) : SP X pins D f z := by
  cases f <;> first
    | exact (let ⟨τ', H', I, q⟩ := h; ⟨τ', H', I.unsuite ok, q⟩)
    | exact (let ⟨v, τ', H', I, r, q⟩ := h; ⟨v, τ', H', I.unsuite ok, r, q⟩)
/-- .. and behind one that has the name of slot i -/
theorem suite_outN {D : Ends} {oe : Obj} {i : Nat} {n : Str} {p : Pos} (ok : X.Ok) (hN : X.N.Nodup) (hi : X.N[i]? = some n) (hl : X.env.kindOf n = some .local) {f : Flow} {z : Shared} (h : SP (X.suite a ((a, oe) :: (X.pn ++ pins))) [] (endsW (some i) D) f z) {A : Around} {E : Value → Shared → Prop} :
    wpAny (model X.prog X.w) A (do bindName X.env n .none; unbindBehindTheSuite X.env n p) (fun _ z' => SP X pins D f z') E z := by
  cases f <;> first
    | exact (let ⟨τ', H', I, q⟩ := h; gone_ok (I.unsuite ok) hN hi hl fun _ J => ⟨_, _, J, q⟩)
    | exact (let ⟨v, τ', H', I, r, q⟩ := h; gone_ok (I.unsuite ok) hN hi hl fun _ J => ⟨_, _, _, J, r, q⟩)
end
/-- what a clause's suite is to do -/
def SuiteOk (X : Cx) (suite : List Stmt) (ts : Addr → Value → Option Addr → TS) : Prop :=
  ∀ (a : Addr) (o : Obj) (cls : Value) (d : Option Addr) (l : List (Addr × Obj)), Zc cls d o → (∃ vs, o.data = .fields vs) → PSs (X.suite a ((a, o) :: l)) suite (ts a cls d)
inductive HdsG (X : Cx) : List ExceptHandler → List ClQ → Prop
  | nil : HdsG X [] []
  | un {x : Str} {c : Value} {ts : Addr → Value → Option Addr → TS} {b : Stmt} {bs : List Stmt} {p q : Pos} {hs : List ExceptHandler} {l : List ClQ} :
      Names X x c → SuiteOk X (b :: bs) ts → HdsG X hs l → HdsG X (.ExceptHandler (some (.Name x p)) none (b :: bs) q :: hs) ((c, none, ts) :: l)
  | nm {x n : Str} {i : Nat} {c : Value} {ts : Addr → Value → Option Addr → TS} {b : Stmt} {bs : List Stmt} {p q : Pos} {hs : List ExceptHandler} {l : List ClQ} :
      Names X x c → X.N[i]? = some n → X.env.kindOf n = some .local → SuiteOk X (b :: bs) ts → HdsG X hs l → HdsG X (.ExceptHandler (some (.Name x p)) (some n) (b :: bs) q :: hs) ((c, some i, ts) :: l)
theorem Come.by {X : Cx} {pins : List (Addr × Obj)} {τ : L2.St} {H : Hp} {a : Addr} {cls : Value} {d : Option Addr} {B : Heap} {sI s : Shared} {D : Ends} {W : WX} (m : Come X pins τ H a cls d B sI s) (hs : X.stack = X.env :: X.outer) (hf : X.env.frame = some X.env.locals) (hN : X.N.Nodup) (tk : Takes X W) :
    ∀ {hds : List ExceptHandler} {l : List ClQ}, HdsG X hds l → wGen X.K W D l cls d τ H → wpAny (model X.prog X.w) X.A (handleBy (.ref a) X.env hds) (SP X pins D) X.xe s
  | _, _, .nil, w => m.gone hs hf tk w
  | _, _, .un hc su r, ⟨b, hb, yes, no⟩ => by
    refine wpAny_handleBy_cons (codeAny_handlers_test (m.test hf hc hb ?_)) (by intro z; cases z)
    cases b with
    | false => exact m.by hs hf hN tk r (no rfl)
    | true =>
      refine codeAny_handlers_suite (HandSPX.lands_againZ m.fly fun g fl u => ?_)
      obtain ⟨oe, _, z1, d1, I⟩ := (m.on fl u).suite hf
      exact wpAny_mono ((su a oe cls d _ z1 d1).run _ _ _ _ _ I (yes rfl a m.new)) (fun _ _ e => suite_out m.inv.ok e) fun _ _ z => z.elim
  | _, _, .nm (n := n) hc hi hl su r, ⟨b, hb, yes, no⟩ => by
    refine wpAny_handleBy_cons (codeAny_handlers_test (m.test hf hc hb ?_)) (by intro z; cases z)
    cases b with
    | false => exact m.by hs hf hN tk r (no rfl)
    | true =>
      refine codeAny_handlers_suite_as (HandSPX.lands_againZ m.fly fun g fl u => ?_)
      obtain ⟨oe, _, z1, d1, I⟩ := (m.on fl u).suite hf
      refine store_ok (X := X.suite a _) (v := .ref a) I hN hi (.inl hl) rfl (fun z J => ?_) (.inr hl)
      exact wpAny_mono ((su a oe cls d _ z1 d1).run _ _ _ _ _ J (yes rfl a m.new)) (fun _ _ e => suite_outN m.inv.ok hN hi hl e) fun _ _ z => z.elim
/-- the body's end -/
theorem body_out {X : Cx} {pins : List (Addr × Obj)} {pn' : List (Addr × Obj)} {xe : Value → Shared → Prop} {D : Ends} (ok : X.Ok) {f : Flow} {z : Shared} (h : SP (X.tr (X.pn ++ pins) xe) pn' D f z) : SP X pins D f z := by
  cases f <;> first
    | exact (let ⟨τ', H', I, q⟩ := h; ⟨τ', H', I.ofTry ok, q⟩)
    | exact (let ⟨v, τ', H', I, r, q⟩ := h; ⟨v, τ', H', I.ofTry ok, r, q⟩)
theorem ps_try_gen {X : Cx} {body : List Stmt} {hds : List ExceptHandler} {hd : ExceptHandler} {l : List ClQ} {pos : Pos} {tb : WX → TS} {Wout : WX} (hs : X.stack = X.env :: X.outer) (hf : X.env.frame = some X.env.locals) (hN : X.N.Nodup) (tk : Takes X Wout)
    (bd : ∀ (W : WX) (l : List (Addr × Obj)) (xe : Value → Shared → Prop), Takes (X.tr l xe) W → PassesOwn (model X.prog X.w) X.A X.env xe → PSs (X.tr l xe) body (tb W))
    (hh : HdsG X (hd :: hds) l) : PS X (.Try body (hd :: hds) [] [] pos) (fun D τ H => tb (wGen X.K Wout D l) D τ H) := by
  refine ⟨fun pins s τ H D I h => wpAny_Try_except ?_⟩
  have ok := I.ok
  refine wpAny_mono (bd _ (X.pn ++ pins) _ ?_ PassesOwn.looking |>.run [] s τ H D (I.toTry _) h) (fun f z e => ?_) fun _ _ z => z
  · rintro u z ⟨a, B, sI, pn', τ', H', cls, d, rfl, J, old, up, sky, na, os, ag, w⟩
    exact Sky.land Zc.steady (ok.frames.trans (congrArg some hs)) hf (show Sky B (X.env :: X.outer) a (Zc cls d) X.env.locals z.heap by rw [← hs]; exact sky) fun g fl u => Come.by (s := { z with heap := g }) ⟨J.ofTry ok, old, up.trans u, fl, na, os, ag⟩ hs hf hN tk hh w
  · have e' := body_out ok e
    cases f with
    | next => exact wpAny_execs_nil e'
    | brk => exact e'
    | cont => exact e'
    | ret _ => exact e'

/-! ### the data -/
inductive Cl where
  | un (x : Str) (l : List (Str × Bool)) (fs : FS)
  | nm (x : Str) (l : List (Str × Bool)) (i : Nat) (fs : Addr → Option Addr → Str → FS)
/-- a named clause's suite -/
noncomputable def suiteN (e : Exv) (i : Nat) (fs : Addr → Option Addr → Str → FS) (σ1 : DE) (h1 : DH) : RS := if i < σ1.length then (match e.fs with
    | [] => allA fun a _ => ((fs a none e.cls) (σ1.set i (some (.exn0 a e.cls))) h1).wipe i
    | [(f, d)] => allA fun a dd => ((fs a (some dd) e.cls) (σ1.set i (some (.exn1 a dd e.cls f d))) h1).wipe i
    | _ => .bad) else .bad
noncomputable def catchG (e : Exv) (σ1 : DE) (h1 : DH) : List Cl → RS
  | [] => .exc e σ1 h1
  | .un _ l fs :: r => match lookE e.cls l with
    | some true => (fs σ1 h1).seal
    | some false => catchG e σ1 h1 r
    | none => .bad
  | .nm _ l i fs :: r => match lookE e.cls l with
    | some true => suiteN e i fs σ1 h1
    | some false => catchG e σ1 h1 r
    | none => .bad
noncomputable def dTryG (fb : FS) (cs : List Cl) : FS := fun σ h => match fb σ h with
  | .exc e σ1 h1 => catchG e σ1 h1 cs
  | r => r
inductive HdG (X : Cx) : List ExceptHandler → List Cl → List ClQ → Prop
  | nil : HdG X [] [] []
  | un {x : Str} {D : Addr} {l : List (Str × Bool)} {fs : FS} {hs : List ExceptHandler} {r : List Cl} {q : List ClQ} {b₀ : Stmt} {suite : List Stmt} {np pos' : Pos} :
      X.mg x = some (.ref D) → ExmL X.K X.mg x l → Gl X x → (x == ("__debug__" : Str)) = false →
      (∀ (a : Addr) (oe : Obj) (pn : List (Addr × Obj)), PSs (X.suite a ((a, oe) :: pn)) (b₀ :: suite) (rS X.K X.mg W0 fs)) → HdG X hs r q →
      HdG X (.ExceptHandler (some (.Name x np)) none (b₀ :: suite) pos' :: hs) (.un x l fs :: r) ((.ref D, none, fun _ _ _ => rS X.K X.mg W0 fs) :: q)
  | nm {x n : Str} {i : Nat} {D : Addr} {l : List (Str × Bool)} {fs : Addr → Option Addr → Str → FS} {hs : List ExceptHandler} {r : List Cl} {q : List ClQ} {b₀ : Stmt} {suite : List Stmt} {np pos' : Pos} :
      X.mg x = some (.ref D) → ExmL X.K X.mg x l → Gl X x → (x == ("__debug__" : Str)) = false → X.N[i]? = some n → X.env.kindOf n = some .local →
      (∀ (a : Addr) (oe : Obj) (pn : List (Addr × Obj)) (C : Addr) (o : Option Addr) (y : Str), X.mg y = some (.ref C) → Zc (.ref C) o oe → (∃ vs, oe.data = .fields vs) → PSs (X.suite a ((a, oe) :: pn)) (b₀ :: suite) (rS X.K X.mg W0 (fs a o y))) → HdG X hs r q →
      HdG X (.ExceptHandler (some (.Name x np)) (some n) (b₀ :: suite) pos' :: hs) (.nm x l i fs :: r) ((.ref D, some i, fun a cls d D τ H => ∃ p : Str × Addr, (X.mg p.1 = some (.ref p.2) ∧ cls = .ref p.2) ∧ rS X.K X.mg W0 (fs a d p.1) D τ H) :: q)
theorem HdG.ok {X : Cx} : ∀ {hs : List ExceptHandler} {r : List Cl} {q : List ClQ}, HdG X hs r q → HdsG X hs q
  | _, _, _, .nil => .nil
  | _, _, _, .un m l g d s t => .un ⟨g, d, .inl m⟩ (fun a oe cls d pn _ _ => s a oe pn) t.ok
  | _, _, _, .nm m l g d hi hln s t => .nm ⟨g, d, .inl m⟩ hi hln (fun a oe cls d pn hz hfl => PSs.ex (P := fun p : Str × Addr => X.mg p.1 = some (.ref p.2) ∧ cls = .ref p.2) fun p hp => by
      obtain ⟨g, rfl⟩ := hp
      exact s a oe pn p.2 d p.1 g hz hfl) t.ok
def HdGE (X : Cx) (hs : List ExceptHandler) (r : List Cl) : Prop := ∃ q, HdG X hs r q
theorem hdg_nil {X : Cx} : HdGE X [] [] := ⟨_, .nil⟩
theorem hdg_un {X : Cx} {x : Str} {l : List (Str × Bool)} {fs : FS} {hs : List ExceptHandler} {r : List Cl} {b₀ : Stmt} {suite : List Stmt} {np pos' : Pos} (hx : ∃ D, X.mg x = some (.ref D)) (hl : ExmL X.K X.mg x l)
    (s : ∀ (a : Addr) (oe : Obj) (pn : List (Addr × Obj)), PSs (X.suite a ((a, oe) :: pn)) (b₀ :: suite) (rS X.K X.mg W0 fs)) (t : HdGE X hs r) (g : Gl X x := by rfl) (d : (x == ("__debug__" : Str)) = false := by decide) :
    HdGE X (.ExceptHandler (some (.Name x np)) none (b₀ :: suite) pos' :: hs) (.un x l fs :: r) := by
  obtain ⟨D, m⟩ := hx
  obtain ⟨q, t⟩ := t
  exact ⟨_, .un m hl g d s t⟩
theorem hdg_nm {X : Cx} {x n : Str} {l : List (Str × Bool)} {fs : Addr → Option Addr → Str → FS} {hs : List ExceptHandler} {r : List Cl} {b₀ : Stmt} {suite : List Stmt} {np pos' : Pos} (i : Nat) (hx : ∃ D, X.mg x = some (.ref D)) (hl : ExmL X.K X.mg x l)
    (s : ∀ (a : Addr) (oe : Obj) (pn : List (Addr × Obj)) (C : Addr) (o : Option Addr) (y : Str), X.mg y = some (.ref C) → Zc (.ref C) o oe → (∃ vs, oe.data = .fields vs) → PSs (X.suite a ((a, oe) :: pn)) (b₀ :: suite) (rS X.K X.mg W0 (fs a o y))) (t : HdGE X hs r)
    (hi : X.N[i]? = some n := by rfl) (hln : X.env.kindOf n = some .local := by rfl) (g : Gl X x := by rfl) (d : (x == ("__debug__" : Str)) = false := by decide) :
    HdGE X (.ExceptHandler (some (.Name x np)) (some n) (b₀ :: suite) pos' :: hs) (.nm x l i fs :: r) := by
  obtain ⟨D, m⟩ := hx
  obtain ⟨q, t⟩ := t
  exact ⟨_, .nm m hl g d hi hln s t⟩
theorem catch_gen {X : Cx} {W : WX} {D : Ends} {ev : Exv} {σ1 : DE} {h1 : DH} {ρ ρ1 : List Addr} {H H1 : Hp} {τ1 : L2.St} {c : Value} {o : Option Addr} (g1 : Grow ρ H ρ1 H1) (w1 : Wd X.K X.mg ρ1 h1 H1) (s1 : RepS X.K ρ1 H1 σ1 τ1) (re : ExcRep X.K X.mg ρ1 H1 ev c o) :
    ∀ {hs : List ExceptHandler} {r : List Cl} {q : List ClQ}, HdG X hs r q → PstS X.K X.mg W ρ H D (catchG ev σ1 h1 r) → wGen X.K W D q c o τ1 H1
  | _, _, _, .nil, p => p _ _ _ _ _ g1 w1 s1 re
  | _, _, _, .un (x := x) (l := l) (fs := fs) m hl g d s t, p => by
    obtain ⟨C, gC, rfl, rf⟩ := id re
    unfold catchG at p
    cases em : lookE ev.cls l with
    | none =>
      simp only [em] at p
      exact p.elim
    | some b =>
      obtain ⟨C2, D2, gC2, gD2, ee⟩ := hl.look em
      rw [gC] at gC2
      rw [m] at gD2
      cases gC2
      cases gD2
      simp only [em] at p
      refine ⟨b, ee, fun hb2 a ha => ?_, fun hb2 => ?_⟩
      · subst hb2
        simp only at p
        exact ⟨σ1, h1, ρ1, w1, s1, (PstS.seal p).grow g1⟩
      · subst hb2
        simp only at p
        exact catch_gen g1 w1 s1 re t p
  | _, _, _, .nm (x := x) (l := l) (i := i) (fs := fs) m hl g d hi hln s t, p => by
    obtain ⟨C, gC, rfl, rf⟩ := id re
    unfold catchG at p
    cases em : lookE ev.cls l with
    | none =>
      simp only [em] at p
      exact p.elim
    | some b =>
      obtain ⟨C2, D2, gC2, gD2, ee⟩ := hl.look em
      rw [gC] at gC2
      rw [m] at gD2
      cases gC2
      cases gD2
      simp only [em] at p
      refine ⟨b, ee, fun hb2 a ha => ?_, fun hb2 => ?_⟩
      · subst hb2
        simp only at p
        unfold suiteN at p
        split at p
        · rename_i hc
          refine ⟨(ev.cls, C), ⟨gC, rfl⟩, ?_⟩
          split at p
          · rename_i hfs
            have ho : o = none := by
              rcases rf with ⟨_, h⟩ | ⟨h, _⟩
              · exact h
              · exact absurd hfs h
            subst ho
            exact ⟨σ1.set i (some (.exn0 a ev.cls)), h1, ρ1, w1, s1.set .exn0 i, ((p.allA a a).unwipe).grow g1⟩
          · rename_i f d hfs
            rcases rf with ⟨h, _⟩ | ⟨_, dd, xs, rfl, hx, rx⟩
            · rw [hfs] at h
              cases h
            · rw [hfs] at rx
              cases rx with
              | cons h0 h1' =>
                cases h1'
                rename_i q
                obtain ⟨qf, qv⟩ := q
                obtain ⟨h0, h0r⟩ := h0
                dsimp only at h0 h0r
                subst h0
                exact ⟨σ1.set i (some (.exn1 a dd ev.cls f d)), h1, ρ1, w1, s1.set (.exn1 hx h0r) i, ((p.allA a dd).unwipe).grow g1⟩
          · exact p.elim
        · exact p.elim
      · subst hb2
        simp only at p
        exact catch_gen g1 w1 s1 re t p
theorem ds_tryG {X : Cx} {W : WX} {body : List Stmt} {h₀ : ExceptHandler} {hds : List ExceptHandler} {pos : Pos} {fb : FS} {cs : List Cl} (hN : X.N.Nodup) (tk : Takes X W)
    (hb : ∀ (W' : WX) (pn : List (Addr × Obj)) (xe : Value → Shared → Prop), Takes (X.tr pn xe) W' → PassesOwn (model X.prog X.w) X.A X.env xe → PSs (X.tr pn xe) body (rS X.K X.mg W' fb))
    (hh : HdGE X (h₀ :: hds) cs) (hs : X.stack = X.env :: X.outer := by rfl) (hf : X.env.frame = some X.env.locals := by rfl) :
    PS X (.Try body (h₀ :: hds) [] [] pos) (rS X.K X.mg W (dTryG fb cs)) := by
  obtain ⟨q, hq⟩ := hh
  refine PS.weak (ps_try_gen (tb := fun W' => rS X.K X.mg W' fb) hs hf hN tk hb hq.ok) fun D τ H h => ?_
  obtain ⟨σ, dh, ρ, w, s, p⟩ := h
  refine ⟨σ, dh, ρ, w, s, ?_⟩
  unfold dTryG at p
  cases e : fb σ dh with
  | exc ev σ1 h1 =>
    simp only [e] at p
    intro ρ1 H1 τ1 c o g1 w1 s1 re
    exact catch_gen g1 w1 s1 re hq p
  | nx σ1 h1 => simp only [e] at p; exact p
  | rt d h1 => simp only [e] at p; exact p
  | bk σ1 h1 => simp only [e] at p; exact p
  | ct σ1 h1 => simp only [e] at p; exact p
  | bad => simp only [e] at p; exact p

/-! ### evaluating -/
section
variable {σ σ1 : DE} {h h1 : DH} {b k : FS} {cs : List Cl} {e : Exv} {x : Str} {l : List (Str × Bool)} {d : D} {i : Nat} {fs : Addr → Option Addr → Str → FS} {r : RS}
theorem tryG_nx (bd : b σ h = .nx σ1 h1) : dTryG b cs σ h = .nx σ1 h1 := by unfold dTryG; rw [bd]
theorem tryG_rt (bd : b σ h = .rt d h1) : dTryG b cs σ h = .rt d h1 := by unfold dTryG; rw [bd]
theorem tryG_exc (bd : b σ h = .exc e σ1 h1) : dTryG b cs σ h = catchG e σ1 h1 cs := by unfold dTryG; rw [bd]
@[simp] theorem catchG_nil : catchG e σ h [] = .exc e σ h := (rfl)
theorem catchG_yes (lk : lookE e.cls l = some true) : catchG e σ h (.un x l k :: cs) = (k σ h).seal := by simp only [catchG, lk]
theorem catchG_no (lk : lookE e.cls l = some false) : catchG e σ h (.un x l k :: cs) = catchG e σ h cs := by simp only [catchG, lk]
theorem catchG_noN (lk : lookE e.cls l = some false) : catchG e σ h (.nm x l i fs :: cs) = catchG e σ h cs := by simp only [catchG, lk]
theorem catchG_yes0 {y : Str} (lk : lookE y l = some true) (hi : i < σ.length) (run : ∀ a, (fs a none y (σ.set i (some (.exn0 a y))) h).wipe i = r) : catchG ⟨y, []⟩ σ h (.nm x l i fs :: cs) = r := by
  simp only [catchG, lk, suiteN]
  rw [if_pos hi]
  exact allA_of fun a _ => run a
theorem catchG_yes1 {y f : Str} (lk : lookE y l = some true) (hi : i < σ.length) (run : ∀ a dd, (fs a (some dd) y (σ.set i (some (.exn1 a dd y f d))) h).wipe i = r) : catchG ⟨y, [(f, d)]⟩ σ h (.nm x l i fs :: cs) = r := by
  simp only [catchG, lk, suiteN]
  rw [if_pos hi]
  exact allA_of fun a dd => run a dd
end
end DL

/-! The data layer: a tuple taken no times. -/
namespace DL
open PySem PySem.Spec L2
open PyProof.Rows hiding St
open AutoSeq1 (wpAny_loadPart') in
theorem tuple_mul0 (l : Addr) (items : Array Value) (n : Nat) (dd : Option Addr) (sl : Array (Option Value)) (u : Tok) (hi : items.isEmpty = false) :
    Meets (Builtin.«tuple.__mul__» ⟨[.ref l, .int 0 u], []⟩) (fun _ R s => s.heap.get? l = some { cls := .type "tuple", dict := dd, data := .seq items n, slots := sl } ∧
      R (.ok (.ret (Value.ref s.heap.objs.size))) { s with heap := s.heap.push { cls := .type "tuple", data := .seq #[] } }) :=
  .of_wp fun prog w A R s h => by
    obtain ⟨hp, g, d, tk, os⟩ := s
    obtain ⟨hl, h⟩ := h
    have f1 := AutoSeq1.idx_int
    wp_walk using wpAny_loadPart' hl
    repeat (first
      | (refine wpAny_ite_false (decide_eq_false (by decide)) ?_; wp_walk using wpAny_loadPart' hl)
      | (refine wpAny_ite_false (decide_eq_false (by rw [hi]; decide)) ?_; wp_walk using wpAny_loadPart' hl)
      | (refine wpAny_ite_true (by simp) ?_; wp_walk using wpAny_loadPart' hl))
    all_goals exact ⟨_, rfl, h⟩
def rRep0 (K : PySem.W.Frag) : R2 := fun x y H Q => ∃ l xs, x = .ref l ∧ y = .int 0 ∧ SqT K H l xs ∧ xs ≠ [] ∧ NewT H Q []
theorem op_rep0 {X : Cx} : OpR X (binaryOp .Mult) (rRep0 X.K) := by
  intro pins s σ H x y v u Q I rx ry h
  obtain ⟨l, xs, rfl, rfl, hT, hne, q⟩ := h
  cases rx
  obtain ⟨t, rfl⟩ := ry
  obtain ⟨its, r, ⟨⟨cls, dd, data, sl⟩, ho, hc, n, hd⟩, hs⟩ := I.tuple hT
  simp only at hc hd
  subst hc hd
  have hi : its.toArray.isEmpty = false := by
    cases its with
    | nil =>
      cases r
      exact absurd rfl hne
    | cons a b => rfl
  refine wpAny_binaryOp_repeat_ref (T := "tuple") (U := "int") (by decide) ⟨_, ho, rfl⟩ (fun s' => typeIs_int s' 0 t) noFill_tuple_mul F.fills_int_mul F.slot_int_rmul repeat_tuple F.slot_int_index.lookup
    (call_meets F.slot_int_rmul (typeIs_int s 0 t) F.entry_int_rmul (F.args_int_rmul_2 _ _) (int_rmul_tuple 0 t l its.toArray n dd sl)
      ⟨ho, rfl, ⟨_, ho, rfl⟩, call_meets F.slot_tuple_mul ⟨_, ho, rfl⟩ F.entry_tuple_mul (F.args_tuple_mul_2 _ _) (tuple_mul0 l its.toArray n dd sl t hi) ⟨ho, ?_⟩⟩)
  exact ⟨.ref s.heap.objs.size, _, I.tupNew (t' := s.toks) (.nil) (by simp), rfl, q _ _ (I.hok.fresh (Nat.le_refl _)) rfl rfl⟩
/-- * with a tuple taken no times, too -/
def oMulZ (x y : D) (h : DH) : Res D := match x, y with
  | .tup (a :: l), .int k => if k = 0 then .ok (.tup []) h else oMul (.tup (a :: l)) (.int k) h
  | x, y => oMul x y h
def rMulZ (K : PySem.W.Frag) : R2 := fun x y H Q => rRep0 K x y H Q ∨ rMulX K x y H Q
theorem op_mulZ {X : Cx} : OpR X (binaryOp .Mult) (rMulZ X.K) := OpR.or op_rep0 op_mulX
theorem os_mulZ {K : PySem.W.Frag} {mg : Str → Option Value} : OpS K mg (rMulZ K) oMulZ := by
  intro ρ dh H x y v u Q W τ w rx ry p
  unfold oMulZ at p
  split at p
  · split at p
    · rename_i a l k e
      subst e
      cases rx with
      | tup t r =>
        cases ry
        cases r
        exact .inl ⟨_, _, rfl, rfl, t.sq, (fun z => by cases z), new_tup w .nil p⟩
    · exact .inr (os_mul _ _ _ _ _ _ _ _ _ _ w rx ry p)
  · exact .inr (os_mul _ _ _ _ _ _ _ _ _ _ w rx ry p)
@[simp] theorem oMulZ_int {x y : Int} {h : DH} : oMulZ (.int x) (.int y) h = oMul (.int x) (.int y) h := (rfl)
@[simp] theorem oMulZ_ref {n : Nat} {y : D} {h : DH} : oMulZ (.ref n) y h = oMul (.ref n) y h := (rfl)
theorem oMulZ_tup {a : D} {l : List D} {k : Int} {h : DH} (hk : 0 ≤ k ∧ k ≤ 1000) (hl : (a :: l).length ≤ 1000) : oMulZ (.tup (a :: l)) (.int k) h = .ok (.tup (List.replicate k.toNat (a :: l)).flatten) h := by
  unfold oMulZ
  by_cases z : k = 0
  · subst z
    rfl
  · simp only [if_neg z]
    unfold oMul
    have : (a :: l) ≠ [] ∧ 1 ≤ k ∧ k ≤ 1000 ∧ (a :: l).length ≤ 1000 := ⟨(fun e => by cases e), by omega, hk.2, hl⟩
    simp only [if_pos this]
end DL

/-! The data layer: t.count(x) of a tuple; min of a list of tuples of ints. -/
namespace DL
open PySem PySem.Spec L2
open PyProof.Rows hiding St

/-! ### t.count(x) -/
def rTCount (K : PySem.W.Frag) : V → List V → Hp → VK → Prop := fun x xs H Q => ∃ p ys y, x = .ref p ∧ xs = [y] ∧ SqT K H p ys ∧ flatV y = true ∧ ys.all flatV = true ∧ Q (.int (ys.countP fun z => eqV z y : Nat)) H
theorem countP_vals {y : V} : ∀ {xs : List V} {us : List Value}, Vals xs us → xs.all flatV = true → us.countP (eqU y) = xs.countP fun z => eqV z y
  | _, _, .nil, _ => rfl
  | x :: xs, u :: us, .cons r t, f => by
    rw [List.all_cons, Bool.and_eq_true] at f
    rw [List.countP_cons, List.countP_cons, countP_vals t f.2, eqU_of r f.1]
theorem mt_tcount {X : Cx} : MtR X "tuple.count" (rTCount X.K) := by
  intro pins s σ H x xs v us Q I rx rs h
  obtain ⟨p, ys, y, rfl, rfl, hq, fy, fys, q⟩ := h
  cases rx
  cases rs with
  | cons ry rt =>
    rename_i uy ut
    cases rt
    obtain ⟨its, r, pl, hlen⟩ := I.tuple hq
    obtain ⟨⟨cls, dd, dt, sl⟩, ho, hc, n, hd⟩ := pl
    simp only at hc hd
    subst hc
    subst hd
    refine call_meets PySem.F.slot_tuple_count ⟨_, ho, rfl⟩ PySem.F.entry_tuple_count (PySem.F.args_tuple_count_2 _ _) (PySem.SeqAt.tuple_countAt p its.toArray n dd sl uy (eqU y))
      ⟨ho, fun w hw => mem_eqAt ry fy r fys w (by simpa using hw), ⟨.int (ys.countP fun z => eqV z y : Nat), H, I.tok _, ⟨s.toks, by rw [← countP_vals r fys]⟩, q⟩⟩
def mTCount : D → List D → DH → Res D
  | .tup ds, [y], h => if flatD y = true ∧ ds.all flatD = true then .ok (.int (ds.countP fun d => eqF d y : Nat)) h else .bad
  | _, _, _ => .bad
theorem countP_rep {K : PySem.W.Frag} {ρ : List Addr} {H : Hp} {y : D} {u : V} (ry : Rep K ρ H y u) (fy : flatD y = true) : ∀ {ds : List D} {xs : List V}, RepL K ρ H ds xs → ds.all flatD = true → (xs.countP fun z => eqV z u) = ds.countP fun d => eqF d y
  | _, _, .nil, _ => rfl
  | d :: ds, x :: xs, .cons r t, f => by
    rw [List.all_cons, Bool.and_eq_true] at f
    rw [List.countP_cons, List.countP_cons, countP_rep ry fy t f.2, eqF_rep r ry f.1 fy]
theorem ms_tcount {K : PySem.W.Frag} {mg : Str → Option Value} : MetS K mg (rTCount K) mTCount := by
  intro ρ dh H x v ds vs Q W τ w rx rs p
  unfold mTCount at p
  split at p
  · rename_i es y
    obtain ⟨u, rfl, ry⟩ := rs.inv1
    cases rx with
    | tup t r =>
      split at p
      · rename_i hf
        refine ⟨_, _, u, rfl, rfl, t.sq, flat_of ry hf.1, flats_of r hf.2, ?_⟩
        rw [countP_rep ry hf.1 r hf.2]
        exact same_val w (.int _) p
      · exact p.elim
  · exact p.elim
theorem mTCount_tup {ds : List D} {y : D} {h : DH} (fy : flatD y = true) (fs : ds.all flatD = true) : mTCount (.tup ds) [y] h = .ok (.int (ds.countP fun d => eqF d y : Nat)) h := if_pos ⟨fy, fs⟩

/-! ### the loop of min where the comparison looks at the heap -/
section
variable {prog : Program} {w : World} {A : Around} {R : Result → Shared → Prop} {it : Addr} {fp wr : List Addr} {n : Nat} {P : Nat → Value → Prop} {St : Nat → Heap → Prop} {Kp : Heap → Prop} {lt : Nat → Nat → Bool}
/-- the comparison of two items, where Kp holds of the heap -/
def LtK (prog : Program) (w : World) (A : Around) (Kp : Heap → Prop) (P : Nat → Value → Prop) (lt : Nat → Nat → Bool) : Prop :=
  ∀ (i j : Nat) (x y : Value) (s : Shared) (Q E : Value → Shared → Prop), Kp s.heap → P i x → P j y → Q (.bool (lt i j)) s → wpAny (model prog w) A (richCompare .Lt x y) Q E s
/-- all but some cells stay -/
def But (wr : List Addr) (c : Addr) (h h' : Heap) : Prop := ∀ b o, b ∉ wr → b ≠ c → h.get? b = some o → h'.get? b = some o
theorem But.trans {wr : List Addr} {c : Addr} {a b d : Heap} (x : But wr c a b) (y : But wr c b d) : But wr c a d := fun k o h1 h2 e => y k o h1 h2 (x k o h1 h2 e)
theorem But.of {wr : List Addr} {c : Addr} {h h' : Heap} (k : ∀ b o, b ∉ wr → h.get? b = some o → h'.get? b = some o) : But wr c h h' := fun b o h1 _ e => k b o h1 e
theorem But.upd {wr : List Addr} {c : Addr} {h : Heap} {f : Obj → Obj} : But wr c h (h.update c f) := fun b o _ h2 e => (Heap.get?_update_other _ _ (Ne.symm h2)).trans e
def Best (c : Addr) (h : Heap) (v : Value) : Prop := ∃ k, h.get? c = some { cls := .type "list", dict := none, data := .seq #[v, v] k, slots := #[] }
theorem loop_name : (toString "min" ++ toString ".loop" : String) = "min.loop" := by decide
/-- from item j + 1 on -/
theorem min_from (W : Walks prog w A.in1 it fp wr n P St) (cmp : LtK prog w A.in1 Kp P lt) {c : Addr} (cf : c ∉ fp) (kp : ∀ h h', Kp h → But wr c h h' → Kp h') :
    ∀ (left j : Nat) (s : Shared) (v : Value), n = j + 1 + left → St (j + 1) s.heap → Kp s.heap → P (argBest lt j) v → Best c s.heap v →
      (∀ u h' t, P (argBest lt (n - 1)) u → But wr c s.heap h' → R (.ok (.ret u)) { s with heap := h', toks := t }) → codeAny (model prog w) A (.builtin "min.loop" ⟨[.ref it, .none, .ref c], []⟩) R s
  | left, j, s, v, hn, st, hk, hv, ⟨k, hb⟩, fin => by
    have cw : c ∉ wr := fun z => cf (W.sub c z)
    refine codeAny_builtin F.entry_min_loop (by
      rw [Around.under_plainId F.plain_min_loop _]
      refine wpAny_bind (wpAny_seqItems hb rfl ?_)
      cases left with
      | zero =>
        obtain rfl : n = j + 1 := by omega
        refine wpAny_bind (wpAny_tryCatch (W.done s _ _ st fun h1 t k1 => wpAny_bind (wpAny_updateSeq (k1 c _ cw hb) rfl (wpAny_bind (wpAny_letGo (wpAny_pure (fin v _ t hv ((But.of k1).trans But.upd))))))))
      | succ left =>
        refine wpAny_bind (wpAny_tryCatch (W.item (j + 1) s _ _ (by omega) st fun u h1 t hu st1 k1 => ?_))
        have hb1 := k1 c _ cw hb
        have hk1 := kp _ _ hk (But.of k1)
        show wpAny _ _ (tryCatch (holding [u, u] (richCompare .Lt u v >>= _)) _ >>= _) _ _ _
        refine wpAny_bind (wpAny_tryCatch (wpAny_holding (wpAny_bind (cmp (j + 1) (argBest lt j) u v _ _ _ hk1 hu hv ?_))))
        refine wpAny_bind (wpAny_holding (wpAny_truthy_bool (wpAny_bind (wpAny_letGo (wpAny_pure ?_)))))
        cases less : lt (j + 1) (argBest lt j) with
        | false =>
          simp only [Bool.false_eq_true, if_false]
          refine wpAny_bind (wpAny_letGo ?_)
          rw [loop_name]
          exact wpAny_pure ⟨plainId_quiet F.plain_min_loop _, min_from W cmp cf kp left (j + 1) { s with heap := h1, toks := t } v (by omega) st1 hk1 (by rw [argBest, less]; exact hv) ⟨k, hb1⟩ fun u' h' t' hu' b' => fin u' h' t' hu' ((But.of k1).trans b')⟩
        | true =>
          simp only [if_true]
          refine wpAny_bind (wpAny_updateSeq hb1 rfl (wpAny_bind (wpAny_letGo ?_)))
          rw [loop_name]
          exact wpAny_pure ⟨plainId_quiet F.plain_min_loop _, min_from W cmp cf kp left (j + 1) { s with heap := _, toks := t } u (by omega) (W.frame _ _ _ st1 fun b hbf o e => But.upd (wr := []) (c := c) b o (by simp) (fun z => cf (z ▸ hbf)) e) (kp _ _ hk1 But.upd) (by rw [argBest, less]; exact hu) ⟨_, Heap.get?_update_self _ hb1 rfl⟩
            fun u' h' t' hu' b' => fin u' h' t' hu' (((But.of k1).trans But.upd).trans b')⟩)
theorem min_first (W : Walks prog w A.in1 it fp wr n P St) (cmp : LtK prog w A.in1 Kp P lt) {c : Addr} (cf : c ∉ fp) (kp : ∀ h h', Kp h → But wr c h h' → Kp h') (n0 : 0 < n) {s : Shared} {k : Nat} (st : St 0 s.heap) (hk : Kp s.heap)
    (hb : s.heap.get? c = some { cls := .type "list", dict := none, data := .seq #[] k, slots := #[] }) (fin : ∀ u h' t, P (argBest lt (n - 1)) u → But wr c s.heap h' → R (.ok (.ret u)) { s with heap := h', toks := t }) :
    codeAny (model prog w) A (.builtin "min.loop" ⟨[.ref it, .none, .ref c], []⟩) R s := by
  have cw : c ∉ wr := fun z => cf (W.sub c z)
  refine codeAny_builtin F.entry_min_loop (by
    rw [Around.under_plainId F.plain_min_loop _]
    refine wpAny_bind (wpAny_seqItems hb rfl (wpAny_bind (wpAny_tryCatch (W.item 0 s _ _ n0 st fun v h1 t hv st1 k1 => ?_))))
    have hb1 := k1 c _ cw hb
    show wpAny _ _ (updateSeq c (fun _ => #[v, v]) >>= _) _ _ _
    refine wpAny_bind (wpAny_updateSeq hb1 rfl ?_)
    rw [loop_name]
    exact wpAny_pure ⟨plainId_quiet F.plain_min_loop _, min_from W cmp cf kp (n - 1) 0 { s with heap := _, toks := t } v (by omega) (W.frame _ _ _ st1 fun b hbf o e => But.upd (wr := []) (c := c) b o (by simp) (fun z => cf (z ▸ hbf)) e)
      (kp _ _ hk ((But.of k1).trans But.upd)) hv ⟨_, Heap.get?_update_self _ hb1 rfl⟩ fun u h' t' hu b' => fin u h' t' hu (((But.of k1).trans But.upd).trans b')⟩)
/-- min(x) where x is walked -/
theorem min_walkK {E : Value → Shared → Prop} {s : Shared} {x : Value} {Q : Value → Shared → Prop}
    (h : wpAny (model prog w) A.in1 (pyIter x) (fun i s1 => ∃ it fp wr n P St Kp lt, i = .ref it ∧ Walks prog w A.in1 it fp wr n P St ∧ St 0 s1.heap ∧ (∀ b ∈ fp, b < s1.heap.objs.size) ∧ 0 < n ∧ LtK prog w A.in1 Kp P lt ∧ Kp s1.heap ∧
      (∀ c h h', s1.heap.objs.size ≤ c → Kp h → But wr c h h' → Kp h') ∧ (∀ o, Kp (s1.heap.push o)) ∧ ∀ v h' t, P (argBest lt (n - 1)) v → (∀ b o, b ∉ wr → s1.heap.get? b = some o → h'.get? b = some o) → Q v { s1 with heap := h', toks := t }) E s) :
    wpAny (model prog w) A (call (.builtin "min") [x]) Q E s := by
  refine call_function_tree F.kind_min F.plain_min F.entry_min (F.args_min1 _) ?_
  show wpAny _ _ (Builtin.Builtins.bindParams "min" ["key", "default"] 0 ⟨[], []⟩ >>= _) _ _ _
  refine wpAny_bind (wpAny_of_eq (show Builtin.Builtins.bindParams "min" ["key", "default"] 0 ⟨[], []⟩ = pure [none, none] from rfl) (wpAny_bind (wpAny_pure ?_)))
  refine wpAny_bind (wpAny_mono h (fun i s1 q => ?_) fun _ _ e => e)
  obtain ⟨it, fp, wr, n, P, St, Kp, lt, rfl, W, st, low, n0, cmp, kp0, kp, kpn, fin⟩ := q
  refine wpAny_bind (wpAny_newObj_type ?_)
  have cf : s1.heap.objs.size ∉ fp := fun z => Nat.lt_irrefl _ (low _ z)
  rw [loop_name]
  refine wpAny_pure ⟨plainId_quiet F.plain_min_loop _, min_first W cmp cf (fun a b => kp _ a b (Nat.le_refl _)) n0 (W.frame _ _ _ st fun b _ o e => Heap.get?_push_of_some _ e) (kpn _) (Heap.get?_push_size _ rfl) fun u h' t hu b' => ?_⟩
  exact fin u h' t hu fun b o bw e => b' b o bw (Nat.ne_of_lt (Heap.lt_size e)) (Heap.get?_push_of_some _ e)
end
/-! ### min of a list of tuples of ints -/
/-- the order of tuples of ints -/
def ltL : List Int → List Int → Bool
  | [], [] => false
  | [], _ :: _ => true
  | _ :: _, [] => false
  | a :: l, b :: m => if a = b then ltL l m else decide (a < b)
theorem lexAt_ltL (a b : List Int) : ∀ (k i : Nat), i + k = min a.length b.length → Ob.lexAt (fun j => decide (a.getD j 0 = b.getD j 0)) (fun j => decide (a.getD j 0 < b.getD j 0)) (decide (a.length < b.length)) i k = ltL (a.drop i) (b.drop i)
  | 0, i, e => by
    rw [Ob.lexAt_zero]
    by_cases ha : a.length ≤ i
    · rw [List.drop_eq_nil_of_le ha]
      by_cases hb : b.length ≤ i
      · rw [List.drop_eq_nil_of_le hb, decide_eq_false (by omega)]; rfl
      · rw [List.drop_eq_getElem_cons (by omega : i < b.length), decide_eq_true (by omega)]; rfl
    · rw [List.drop_eq_getElem_cons (by omega : i < a.length), List.drop_eq_nil_of_le (by omega : b.length ≤ i), decide_eq_false (by omega)]; rfl
  | k + 1, i, e => by
    have ha : i < a.length := by omega
    have hb : i < b.length := by omega
    rw [Ob.lexAt_succ, lexAt_ltL a b k (i + 1) (by omega), List.drop_eq_getElem_cons ha, List.drop_eq_getElem_cons hb, ltL]
    have e1 : a.getD i 0 = a[i] := by rw [List.getD_eq_getElem?_getD, List.getElem?_eq_getElem ha]; rfl
    have e2 : b.getD i 0 = b[i] := by rw [List.getD_eq_getElem?_getD, List.getElem?_eq_getElem hb]; rfl
    simp only [e1, e2, decide_eq_true_eq]
theorem ints_at {t : List Int} {us : List Value} (r : Vals (t.map V.int) us) (j : Nat) (h : j < us.toArray.size) : ∃ k, us.toArray[j] = .int (t.getD j 0) k := by
  have hl := r.length
  rw [List.length_map] at hl
  have jt : j < t.length := by rw [hl]; simpa using h
  obtain ⟨u, hu, k, ru⟩ := r.get (i := j) (x := .int t[j]) (by rw [List.getElem?_map, List.getElem?_eq_getElem jt]; rfl)
  refine ⟨k, ?_⟩
  obtain ⟨hj, hje⟩ := List.getElem?_eq_some_iff.mp hu
  rw [List.getD_eq_getElem?_getD, List.getElem?_eq_getElem jt]
  have : us.toArray[j] = us[j] := by simp
  rw [this, hje, ru]
  rfl
/-- t < u of tuples of ints -/
theorem lt_tups {A : Around} {s : Shared} {p q : Addr} {a b : List Int} {us vs : List Value} (hp : s.heap.IsTuple p us.toArray) (hq : s.heap.IsTuple q vs.toArray) (ru : Vals (a.map V.int) us) (rv : Vals (b.map V.int) vs) (hu : A.units < cLine) : Ob.RcOp .Lt A s (.ref p) (.ref q) (ltL a b) := by
  have la : us.toArray.size = a.length := by rw [List.size_toArray, ← ru.length, List.length_map]
  have lb : vs.toArray.size = b.length := by rw [List.size_toArray, ← rv.length, List.length_map]
  have := Ob.RcOp.tuples_lt (e := fun j => decide (a.getD j 0 = b.getD j 0)) (r := fun j => decide (a.getD j 0 < b.getD j 0)) hp hq hu (fun j h1 h2 => by
    obtain ⟨k1, e1⟩ := ints_at ru j h1
    obtain ⟨k2, e2⟩ := ints_at rv j h2
    rw [e1, e2]
    have := eqAt_V (A := A.in1) (s := s) (y := .int (a.getD j 0)) (x := .int (b.getD j 0)) ⟨k1, rfl⟩ ⟨k2, rfl⟩ rfl rfl
    have e : eqV (.int (a.getD j 0)) (.int (b.getD j 0)) = decide (a.getD j 0 = b.getD j 0) := by
      show (a.getD j 0 == b.getD j 0) = _
      rw [Bool.eq_iff_iff]; simp
    rwa [e] at this) (fun j h1 h2 _ => by
    obtain ⟨k1, e1⟩ := ints_at ru j h1
    obtain ⟨k2, e2⟩ := ints_at rv j h2
    rw [e1, e2]
    exact Ob.RcOp.lt_int _ _ _ _)
  rw [la, lb, lexAt_ltL a b (min a.length b.length) 0 (by omega)] at this
  exact this
def ltAt (ts : List (List Int)) (i j : Nat) : Bool := ltL (ts.getD i []) (ts.getD j [])
def rMinT (K : PySem.W.Frag) : List V → Hp → VK → Prop := fun vs H Q => ∃ (a : Addr) (ps : List Addr) (ts : List (List Int)), vs = [V.ref a] ∧ SqL K H a (ps.map V.ref) ∧ 0 < ps.length ∧ ps.length = ts.length ∧
  (∀ i p, ps[i]? = some p → SqT K H p ((ts.getD i []).map V.int)) ∧ ∀ p, ps[argBest (ltAt ts) (ps.length - 1)]? = some p → Q (.ref p) H
theorem refs_at {ps : List Addr} {us : List Value} (r : Vals (ps.map V.ref) us) {i : Nat} {v : Value} (h : us[i]? = some v) : ∃ p, ps[i]? = some p ∧ v = .ref p := by
  have hl := r.length
  rw [List.length_map] at hl
  have il : i < ps.length := by rw [hl]; exact (List.getElem?_eq_some_iff.mp h).1
  obtain ⟨u, hu, ru⟩ := r.get (i := i) (x := .ref ps[i]) (by rw [List.getElem?_map, List.getElem?_eq_getElem il]; rfl)
  rw [h] at hu
  cases hu
  exact ⟨_, List.getElem?_eq_getElem il, ru⟩
theorem cr_minT {X : Cx} (hc : X.calm = true) (hu : X.A.units + 64 < cLine) : CallR X (.builtin "min") (rMinT X.K) := by
  intro pins s σ H vs us Q I r h
  obtain ⟨a, ps, ts, rfl, hs, hne, hlt, hts, q⟩ := h
  obtain ⟨its, rv, hl, _⟩ := I.list hs
  rw [Vals.ref1 r]
  have hlist := hl.isList
  have lits : its.toArray.size = ps.length := by rw [List.size_toArray, ← rv.length, List.length_map]
  have alt : a < s.heap.objs.size := by obtain ⟨_, e, _⟩ := hlist; exact Heap.lt_size e
  have tup : ∀ i p, ps[i]? = some p → ∃ items, s.heap.IsTuple p items.toArray ∧ Vals ((ts.getD i []).map V.int) items := fun i p hp => by
    obtain ⟨items, ri, pl, _⟩ := I.tuple (hts i p hp)
    exact ⟨items, pl, ri⟩
  have plt : ∀ i p, ps[i]? = some p → p < s.heap.objs.size := fun i p hp => by
    obtain ⟨_, ⟨o, e, _⟩, _⟩ := tup i p hp
    exact Heap.lt_size e
  have keep : ∀ {h h' : Heap} {p : Addr} {items : Array Value}, h.IsTuple p items → (∀ o, h.get? p = some o → h'.get? p = some o) → h'.IsTuple p items := fun x k => by
    obtain ⟨o, e, y⟩ := x
    exact ⟨o, k o e, y⟩
  have hsz : ∀ o : Obj, (s.heap.push o).objs.size = s.heap.objs.size + 1 := fun o => Heap.size_push ..
  refine min_walkK (wpAny_pyIter_list hlist ?_)
  refine ⟨s.heap.objs.size, _, _, _, _, _, (fun h => ∀ i p, ps[i]? = some p → ∃ items, h.IsTuple p items.toArray ∧ Vals ((ts.getD i []).map V.int) items), ltAt ts, rfl, Walks.list (A := X.A.in1) (I.ok.hd hc) _ a (Nat.ne_of_lt alt) its.toArray, ⟨⟨_, Heap.get?_push_size _ rfl, rfl, rfl⟩, hlist.push _⟩, fun b hb => ?_, by rw [lits]; exact hne, fun i j x y s2 Q2 E2 hk hx hy q2 => ?_, fun i p hp => ?_, fun c h h' hc2 hk b i p hp => ?_, fun o i p hp => ?_, fun v h' t hP hk => ?_⟩
  · show b < (s.heap.push _).objs.size
    rw [Heap.size_push]
    simp only [List.mem_cons, List.not_mem_nil, or_false] at hb
    rcases hb with rfl | rfl
    · exact Nat.lt_succ_self _
    · exact Nat.lt_succ_of_lt alt
  · obtain ⟨p, hp, rfl⟩ := refs_at rv (i := i) (v := x) (by simpa using hx)
    obtain ⟨p2, hp2, rfl⟩ := refs_at rv (i := j) (v := y) (by simpa using hy)
    obtain ⟨i1, t1, r1⟩ := hk i p hp
    obtain ⟨i2, t2, r2⟩ := hk j p2 hp2
    exact lt_tups t1 t2 r1 r2 (by show X.A.units + 1 < cLine; omega) _ _ _ _ q2
  · obtain ⟨items, t1, r1⟩ := tup i p hp
    exact ⟨items, keep t1 fun o e => Heap.get?_push_of_some _ e, r1⟩
  · obtain ⟨items, t1, r1⟩ := hk i p hp
    have pl := plt i p hp
    have hc3 : s.heap.objs.size + 1 ≤ c := by rw [← Heap.size_push s.heap]; exact hc2
    exact ⟨items, keep t1 fun o e => b p o (fun z => by rw [List.mem_singleton.mp z] at pl; exact Nat.lt_irrefl _ pl) (fun z => by rw [z] at pl; omega) e, r1⟩
  · obtain ⟨items, t1, r1⟩ := tup i p hp
    exact ⟨items, keep t1 fun o e => Heap.get?_push_of_some _ (Heap.get?_push_of_some _ e), r1⟩
  · obtain ⟨p, hp, rfl⟩ := refs_at rv (i := argBest (ltAt ts) (ps.length - 1)) (v := v) (by rw [lits] at hP; simpa using hP)
    exact ⟨.ref p, H, I.kept (PySem.old_kept hk), rfl, q p hp⟩
/-! the data -/
def tintsD : List D → Option (List Int)
  | [] => some []
  | .int i :: l => (tintsD l).map (i :: ·)
  | _ :: _ => none
def tupsD : List D → Option (List (List Int))
  | [] => some []
  | .tup t :: l => match tintsD t, tupsD l with
    | some a, some r => some (a :: r)
    | _, _ => none
  | _ :: _ => none
def bMinT : List D → DH → Res D
  | [.ref n], h => match h[n]? with
    | some (.lst (d :: ds)) => match tupsD (d :: ds) with
      | some ts => .ok ((d :: ds).getD (argBest (ltAt ts) ds.length) .non) h
      | none => .bad
    | _ => .bad
  | _, _ => .bad
theorem tintsD_eq : ∀ {l : List D} {t : List Int}, tintsD l = some t → l = t.map D.int
  | [], t, e => by cases e; rfl
  | .int i :: l, t, e => by
    unfold tintsD at e
    obtain ⟨r, hr, rfl⟩ := Option.map_eq_some_iff.mp e
    rw [tintsD_eq hr]; rfl
theorem tintsD_map : ∀ t : List Int, tintsD (t.map D.int) = some t
  | [] => rfl
  | i :: t => by rw [List.map_cons, tintsD, tintsD_map t]; rfl
theorem tupsD_map : ∀ ts : List (List Int), tupsD (ts.map fun t => .tup (t.map D.int)) = some ts
  | [] => rfl
  | t :: ts => by rw [List.map_cons, tupsD, tintsD_map, tupsD_map ts]
theorem tupsD_eq : ∀ {l : List D} {ts : List (List Int)}, tupsD l = some ts → l = ts.map fun t => .tup (t.map D.int)
  | [], ts, e => by cases e; rfl
  | .tup t :: l, ts, e => by
    unfold tupsD at e
    split at e
    · rename_i a r h1 h2
      cases e
      rw [tintsD_eq h1, tupsD_eq h2]; rfl
    · cases e
theorem rep_tints {K : PySem.W.Frag} {ρ : List Addr} {H : Hp} : ∀ {t : List Int} {xs : List V}, RepL K ρ H (t.map D.int) xs → xs = t.map V.int
  | [], _, .nil => rfl
  | i :: t, _, .cons r s => by
    cases r
    rw [rep_tints s]; rfl
theorem rep_tups {K : PySem.W.Frag} {ρ : List Addr} {H : Hp} : ∀ {ts : List (List Int)} {xs : List V}, RepL K ρ H (ts.map fun t => .tup (t.map D.int)) xs → ∃ ps : List Addr, xs = ps.map V.ref ∧ ps.length = ts.length ∧ ∀ i p, ps[i]? = some p → SqT K H p ((ts.getD i []).map V.int) ∧ Rep K ρ H (.tup ((ts.getD i []).map D.int)) (.ref p)
  | [], _, .nil => ⟨[], rfl, rfl, fun i p h => by simp at h⟩
  | t :: ts, _, .cons r s => by
    obtain ⟨ps, rfl, hl, hp⟩ := rep_tups s
    cases r with
    | tup tt rr =>
      rename_i a xs
      refine ⟨a :: ps, rfl, by simp [hl], fun i p h => ?_⟩
      cases i with
      | zero =>
        cases h
        have := rep_tints rr
        subst this
        exact ⟨tt.sq, .tup tt rr⟩
      | succ i => exact hp i p h
theorem argBest_le (lt : Nat → Nat → Bool) : ∀ k, argBest lt k ≤ k
  | 0 => Nat.le_refl _
  | k + 1 => by
    rw [argBest]
    split
    · exact Nat.le_refl _
    · exact Nat.le_succ_of_le (argBest_le lt k)
theorem cs_minT {K : PySem.W.Frag} {mg : Str → Option Value} : CallS K mg (rMinT K) bMinT := by
  intro ρ dh H ds vs Q W τ w rx p
  unfold bMinT at p
  split at p
  · rename_i n
    obtain ⟨v, rfl, r⟩ := rx.inv1
    cases r with
    | ref ha =>
      rename_i a
      split at p
      · rename_i d l e1
        split at p
        · rename_i ts e2
          obtain ⟨xs, hx, r1⟩ := cell_lst w e1 ha
          have e3 := tupsD_eq e2
          rw [e3] at r1
          obtain ⟨ps, rfl, hl, hp⟩ := rep_tups r1
          have hlen : ts.length = l.length + 1 := by
            have := congrArg List.length e3
            simpa using this.symm
          refine ⟨a, ps, ts, rfl, .inl (.inl hx), by omega, hl, fun i p h => (hp i p h).1, fun q hq => ?_⟩
          have e4 : ps.length - 1 = l.length := by omega
          rw [e4] at hq
          obtain ⟨_, rq⟩ := hp _ q hq
          have e5 : (d :: l).getD (argBest (ltAt ts) l.length) .non = .tup ((ts.getD (argBest (ltAt ts) l.length) []).map D.int) := by
            have il : argBest (ltAt ts) l.length < ts.length := by have := argBest_le (ltAt ts) l.length; omega
            rw [e3, List.getD_eq_getElem?_getD, List.getElem?_map, List.getElem?_eq_getElem il, List.getD_eq_getElem?_getD, List.getElem?_eq_getElem il]
            rfl
          rw [e5] at p
          exact same_val w rq p
        · exact p.elim
      · exact p.elim
  · exact p.elim
theorem bMinT_lst {h : DH} {n : Nat} {ts : List (List Int)} {t : List Int} (e : h[n]? = some (.lst (ts.map fun t => .tup (t.map D.int)))) (ht : ts[argBest (ltAt ts) (ts.length - 1)]? = some t) : bMinT [.ref n] h = .ok (.tup (t.map D.int)) h := by
  cases ts with
  | nil => simp at ht
  | cons a l =>
    have e2 := tupsD_map (a :: l)
    simp only [List.map_cons] at e e2
    simp only [bMinT, e, e2]
    rw [List.getD_eq_getElem?_getD]
    have : (D.tup (a.map D.int) :: l.map fun t => D.tup (t.map D.int)) = (a :: l).map fun t => D.tup (t.map D.int) := rfl
    simp only [List.length_cons, Nat.add_sub_cancel, List.length_map] at ht ⊢
    rw [this, List.getElem?_map, ht]
    rfl
end DL

/-! The data layer: d.get(k, x); {k: v for ..}; sorted(ints) of a list or a tuple; x, y = a, b; a dict display of constants; xs.insert(i, x). -/
namespace DL
open PySem PySem.Spec L2
open PyProof.Rows hiding St

/-! ### d.get(k, x) -/
def dGet2 (fd fk fx : FE) : FE := fun σ h => (fd σ h).bind fun x h1 => match x with
  | .ref n => (match h1[n]? with
    | some (.dic _) => (fk σ h1).bind fun y h2 => (fx σ h2).bind fun z h3 => (match h3[n]?, keyD y with
      | some (.dic kvs), some k => .ok ((getK kvs k).getD z) h3
      | _, _ => .bad)
    | _ => .bad)
  | _ => .bad
section
variable {X : Cx} {W : WX} {K : PySem.W.Frag} {mg : Str → Option Value} {τ : L2.St} {H : Hp} {Q : VK}
theorem rd_get2 {fd fk fx : FE} (h : rE K mg W (dGet2 fd fk fx) τ H Q) : tDGet2 (rE K mg W fd) (rE K mg W fk) (rE K mg W fx) τ H Q := by
  obtain ⟨σ, dh, ρ, w, s, p⟩ := h
  refine ⟨σ, dh, ρ, w, s, ?_⟩
  unfold dGet2 at p
  cases e : fd σ dh with
  | exc ex h1 =>
    simp only [e, Res.bind] at p
    exact p
  | bad =>
    simp only [e, Res.bind] at p
    exact p
  | ok x h1 =>
    simp only [e, Res.bind] at p
    intro ρ1 H1 v g1 w1 rx
    cases rx with
    | @ref n a ha =>
      simp only at p
      cases hk : h1[n]? with
      | none => simp only [hk] at p; exact p.elim
      | some c =>
        cases c with
        | dic kvs =>
          simp only [hk] at p
          obtain ⟨ks, hx, rl⟩ := w1.cellAt hk ha
          refine ⟨a, rfl, .inl ⟨ks, .inl hx⟩, σ, h1, ρ1, w1, s.grow g1, ?_⟩
          cases e2 : fk σ h1 with
          | exc ex h2 =>
            simp only [e2, Res.bind] at p
            exact fun ρ2 H2 c o g2 w2 re => p _ _ _ _ (g1.trans g2) w2 re
          | bad =>
            simp only [e2, Res.bind] at p
            exact p
          | ok y h2 =>
            simp only [e2, Res.bind] at p
            intro ρ2 H2 u g2 w2 ry
            refine ⟨σ, h2, ρ2, w2, (s.grow g1).grow g2, ?_⟩
            cases e3 : fx σ h2 with
            | exc ex h3 =>
              simp only [e3, Res.bind] at p
              exact fun ρ3 H3 c o g3 w3 re => p _ _ _ _ (g1.trans (g2.trans g3)) w3 re
            | bad =>
              simp only [e3, Res.bind] at p
              exact p
            | ok z h3 =>
              simp only [e3, Res.bind] at p
              intro ρ3 H3 z' g3 w3 rz
              split at p
              · rename_i kvs3 k hk3 ek
                obtain ⟨ks3, hx3, rl3⟩ := w3.cellAt hk3 (g3.at_ (g2.at_ ha))
                have ev := keyD_rep ry ek
                subst ev
                obtain ⟨gs, gn⟩ := getK_rep (k := k) rl3
                cases q : getK kvs3 k with
                | some d =>
                  obtain ⟨v', e1, r'⟩ := gs d q
                  rw [q] at p
                  refine ⟨some v', ?_, p _ _ _ (g1.trans (g2.trans g3)) w3 r'⟩
                  rw [← e1]
                  exact DGet.k hx3
                | none =>
                  rw [q] at p
                  refine ⟨none, ?_, p _ _ _ (g1.trans (g2.trans g3)) w3 rz⟩
                  rw [← gn q]
                  exact DGet.k hx3
              · exact p.elim
        | _ => simp only [hk] at p; exact p.elim
    | _ => exact p.elim
theorem de_get2 {o e f : Expr} {apos cpos : Pos} {fd fk fx : FE} (hu : X.A.units + 1 < cLine) (ho : PE X o (rE X.K X.mg W fd)) (he : PE X e (rE X.K X.mg W fk)) (hf : PE X f (rE X.K X.mg W fx))
    (m : M2 X o "get" apos e f cpos := by exact ⟨rfl, rfl, rfl, rfl⟩) : PE X (.Call (.Attribute o "get" apos) [e, f] [] cpos) (rE X.K X.mg W (dGet2 fd fk fx)) :=
  PE.weak (pe_dget2 hu ho he hf m) fun _ _ _ h => rd_get2 h
end

/-! ### {k: v for g in src if t} -/
open Classical in
noncomputable def dcL (keep : DH → Prop) (g : DG) (t : FT) (ek ev : FE) (σ : DE) (n : Nat) : List D → DH → Res D
  | [], h => if keep h then .ok (.ref n) h else .bad
  | d :: r, h => if keep h then (match g d σ with
    | some σ1 => (nox (t σ1 h)).bind fun b h1 => if b = true then (nox (ek σ1 h1)).bind fun y h2 => (nox (ev σ1 h2)).bind fun z h3 => (match h3[n]?, keyD y with
        | some (.dic acc), some k => if acc.length < 16777216 then dcL keep g t ek ev σ n r (h3.set n (.dic (putKD acc k z))) else .bad
        | _, _ => .bad) else dcL keep g t ek ev σ n r h1
    | none => .bad) else .bad
noncomputable def dDc (src : FI) (g : DG) (t : FT) (ek ev : FE) (vs : List Nat) : FE := fun σ h => (src σ h).bind fun s h1 => dcL s.keep g t ek ev (wipeD σ vs) h1.length s.ds (h1 ++ [.dic []])
section
variable {α β : Type} {K : PySem.W.Frag} {mg : Str → Option Value} {R : List Addr → Hp → α → β → Prop} {W : WX} {τ : L2.St} {ρ : List Addr} {H : Hp}
theorem rd_dc {src : FI} {g : DG} {L : List Nat} {Rt : List Addr → Hp → D → V → Prop} {t : FT} {ek ev : FE} {vs : List Nat} {Q : VK} (hL : ∀ k ∈ L, k ∈ vs) (r : rE K mg W (dDc src g t ek ev vs) τ H Q) :
    tDc (rI K mg W Rt src) (rG K Rt L g) (rT K mg W0 t) (rE K mg W0 ek) (rE K mg W0 ev) vs τ H Q := by
  refine rd.mono (fun J H1 => ?_) (rd_bind (R := SrcOk K mg Rt) (g := fun s σ h1 => dcL s.keep g t ek ev (wipeD σ vs) h1.length s.ds (h1 ++ [.dic []])) r)
  rintro ⟨s, σ, dh, ρ1, w, sσ, ⟨go, stop⟩, p⟩ D hD
  have gD : Grow ρ1 H1 (ρ1 ++ [D]) (upd H1 D (.dK [])) := grow_cell hD
  refine ⟨fun i m H' => ∃ dh' ρ', Grow (ρ1 ++ [D]) (upd H1 D (.dK [])) ρ' H' ∧ Wd K mg ρ' dh' H' ∧ i + m = s.ds.length ∧ Pst K mg (Rep K) W τ ρ' H' Q (dcL s.keep g t ek ev (wipeD σ vs) dh.length (s.ds.drop i) dh'),
    ⟨s.ds.length, dh ++ [Cell.dic []], ρ1 ++ [D], Grow.refl _ _, w.new (c := .dic []) hD ⟨[], upd_same, .nil⟩, Nat.zero_add _, p.grow gD⟩, fun i m H' hW => ?_⟩
  obtain ⟨dh', ρ', g', w', em, p'⟩ := hW
  have atD : ρ'[dh.length]? = some D := g'.at_ (new_at w D)
  have sw : RepS K ρ' H' (wipeD σ vs) (L2.wipe τ vs) := (sσ.wipe vs).grow (gD.trans g')
  cases ed : s.ds[i]? with
  | none =>
    have hl : s.ds.length ≤ i := List.getElem?_eq_none_iff.mp ed
    have hi2 : i = s.ds.length := by omega
    subst hi2
    rw [List.drop_length] at p'
    simp only [dcL] at p'
    split at p'
    · rename_i hk
      exact .inl ⟨stop _ _ _ (gD.trans g') w' hk, p' _ _ _ (Grow.refl _ _) w' (.ref atD)⟩
    · exact p'.elim
  | some d =>
    have hl : i < s.ds.length := (List.getElem?_eq_some_iff.mp ed).1
    have hd : s.ds.drop i = d :: s.ds.drop (i + 1) := by
      rw [List.drop_eq_getElem_cons hl, (List.getElem?_eq_some_iff.mp ed).2]
    rw [hd] at p'
    simp only [dcL] at p'
    split at p'
    · rename_i hk
      split at p'
      · rename_i σ1 eg
        obtain ⟨g1, y1⟩ := go i d _ _ _ ed (gD.trans g') w' hk
        refine .inr ⟨g1, fun H2 => ∃ dh' ρ', Grow (ρ1 ++ [D]) (upd H1 D (.dK [])) ρ' H2 ∧ Wd K mg ρ' dh' H2 ∧ (i + 1) + (m - 1) = s.ds.length ∧ Pst K mg (Rep K) W τ ρ' H2 Q (dcL s.keep g t ek ev (wipeD σ vs) dh.length (s.ds.drop (i + 1)) dh'), fun H2 h2 => ⟨m - 1, by omega, h2⟩, fun x H2 hy => ?_⟩
        obtain ⟨g2, w2, r2⟩ := y1 x H2 hy
        refine ⟨ρ', d, _, σ1, r2, sw.grow g2, eg, fun τ2 s2 o2 => ⟨?_, σ1, dh', ρ', w2, s2, ?_⟩⟩
        · have q := (o2.mono hL).wipe
          rw [q]
          have z : ∀ vs : List Nat, Off vs τ (L2.wipe τ vs) := fun vs => ⟨wipe_length _ _, fun k hk => wipe_out hk⟩
          exact (z vs).wipe
        · refine Pst.mono (Pst.nox (Pst.bind (R := fun _ _ a b => a = b) (p'.grow g2))) ?_
          rintro b H3 ⟨b', h3, ρ3, g3, w3, rfl, p3⟩
          cases b' with
          | false =>
            rw [if_neg Bool.false_ne_true] at p3 ⊢
            exact ⟨h3, ρ3, g'.trans (g2.trans g3), w3, by omega, p3⟩
          | true =>
            rw [if_pos rfl] at p3 ⊢
            refine ⟨σ1, h3, ρ3, w3, s2.grow g3, ?_⟩
            refine Pst.mono (Pst.nox (Pst.bind (R := Rep K) p3)) ?_
            rintro y H4 ⟨y', h4, ρ4, g4, w4, ry, p4⟩
            refine ⟨σ1, h4, ρ4, w4, (s2.grow g3).grow g4, ?_⟩
            refine Pst.mono (Pst.nox (Pst.bind (R := Rep K) p4)) ?_
            rintro z H5 ⟨z', h5, ρ5, g5, w5, rz, p5⟩
            have gg := g2.trans (g3.trans (g4.trans g5))
            split at p5
            · rename_i acc k hn ek
              split at p5
              · rename_i hz
                have at5 : ρ5[dh.length]? = some D := gg.at_ atD
                obtain ⟨ks, hx, rl⟩ := w5.cellAt hn at5
                have evv := keyD_rep ry ek
                have hlen : acc.length = ks.length := Paired.length rl
                have g6 : Grow ρ5 H5 ρ5 (upd H5 D (.dK (putK ks k z))) := grow_put hx trivial
                exact ⟨ks, k, evv, hx, size_lt (by rw [← hlen]; exact hz), _, ρ5, g'.trans (gg.trans g6), w5.put (c := .dic (putKD acc k z')) at5 hx trivial ⟨_, upd_same, (putKD_rep rz rl).grow g6⟩, by omega, p5.grow g6⟩
              · exact p5.elim
            · exact p5.elim
      · exact p'.elim
    · exact p'.elim
end
section
variable {X : Cx} {W : WX}
variable {Rt : List Addr → Hp → D → V → Prop} {kx vx tg iter : Expr} {ifs : List Expr} {scope : Scope} {own : List (Str × Nat)} {pos : Pos} {src : FI} {g : DG} {L vs : List Nat} {t : FT} {ek ev : FE}
theorem de_dc (hc : X.calm = true) (hN : X.N.Nodup) (hi : PI X tg iter (rI X.K X.mg W Rt src)) (ok : BlkOk X.N X.env.scope scope own)
    (hg : ∀ (s : Shared) (H : Hp) (C : Addr) (cl : List (Str × Addr)) (fp : List Addr), PG (X.blk s H scope (compEnvC scope cl C X.env) fp) tg (rG X.K Rt L g))
    (ht : ∀ (s : Shared) (H : Hp) (C : Addr) (cl : List (Str × Addr)) (fp : List Addr), PTs (X.blk s H scope (compEnvC scope cl C X.env) fp) ifs (rT X.K X.mg W0 t))
    (hk : ∀ (s : Shared) (H : Hp) (C : Addr) (cl : List (Str × Addr)) (fp : List Addr), PE (X.blk s H scope (compEnvC scope cl C X.env) fp) kx (rE X.K X.mg W0 ek))
    (he : ∀ (s : Shared) (H : Hp) (C : Addr) (cl : List (Str × Addr)) (fp : List Addr), PE (X.blk s H scope (compEnvC scope cl C X.env) fp) vx (rE X.K X.mg W0 ev))
    (hv : own.map (·.2) = vs := by rfl) (hL : ∀ k ∈ L, k ∈ vs := by decide) (hs : ∀ x, foldedSetIterable iter X.env x = pure x := by intro _; rfl) :
    PE X (.DictComp kx vx [⟨tg, iter, ifs, 0⟩] scope pos) (rE X.K X.mg W (dDc src g t ek ev vs)) := by
  subst hv
  exact PE.weak (pe_dc hc hN hi ok hg ht hk he hs) fun _ _ _ r => rd_dc hL r
end
@[simp] theorem dDc_ap {src : FI} {gg : DG} {t : FT} {ek ev : FE} {vs : List Nat} {σ : DE} {h : DH} : dDc src gg t ek ev vs σ h = (src σ h).bind fun s h1 => dcL s.keep gg t ek ev (wipeD σ vs) h1.length s.ds (h1 ++ [.dic []]) := (rfl)
@[simp] theorem dGet2_ap {fd fk fx : FE} {σ : DE} {h : DH} : dGet2 fd fk fx σ h = (fd σ h).bind fun x h1 => match x with
  | .ref n => (match h1[n]? with
    | some (.dic _) => (fk σ h1).bind fun y h2 => (fx σ h2).bind fun z h3 => (match h3[n]?, keyD y with
      | some (.dic kvs), some k => .ok ((getK kvs k).getD z) h3
      | _, _ => .bad)
    | _ => .bad)
  | _ => .bad := (rfl)

/-! ### sorted(xs) of ints, xs a list or a tuple -/
section
variable {prog : Program} {w : World} {A : Around} {E : Value → Shared → Prop} {s : Shared}
theorem collect_tup {l : Addr} {vs : List Value} {Q : List Value → Shared → Prop} (hl : IsTup s.heap l vs.toArray)
    (h : Q vs { s with heap := (s.heap.push (seqObj "list" #[] 0)).update s.heap.objs.size (Obj.mapSeq (· ++ vs.toArray)) }) (hsz : vs.length ≤ sizeLine) :
    wpAny (model prog w) A (collect (.ref l)) Q E s := by
  obtain ⟨o, ho, hc, n, hd⟩ := id hl
  unfold collect
  refine wpAny_bind (wpAny_runValue (codeAny_builtin entry_proto_collect' ?_))
  show wpAny _ _ (do again (.builtin "list.__iadd__" ⟨[← newList [], .ref l], []⟩)) _ _ s
  refine wpAny_bind (wpAny_newList (wpAny_pure ⟨Code.quiet_builtin _ (by decide +kernel), codeAny_builtin entry_list_iadd' ?_⟩))
  show wpAny _ _ (Builtin.List.listExtendWith (.ref s.heap.objs.size) (.ref l) (.ref s.heap.objs.size)) _ _ { s with heap := s.heap.push (seqObj "list" #[] 0) }
  unfold Builtin.List.listExtendWith
  have ho' : (s.heap.push (seqObj "list" #[] 0)).get? l = some o := Heap.get?_push_of_some _ ho
  refine wpAny_bind (wpAny_typeOf (T := "tuple") ⟨o, ho', hc⟩ ?_)
  have ht : (Value.type "tuple" == Value.type "tuple") = true := by rfl
  rw [if_pos (by rw [ht]; simp)]
  refine wpAny_bind (listItems_at ho' hd ?_)
  refine wpAny_bind (listItems_at (xs := #[]) (n := 0) (Heap.get?_push_size _ rfl) rfl ?_)
  rw [if_neg (by simp)]
  refine wpAny_bind (listUpdate_at (xs := #[]) (n := 0) (Heap.get?_push_size _ rfl) rfl ?_ (Nat.zero_le _) (by show (#[] ++ vs.toArray).size ≤ sizeLine + 1; simp only [Array.size_append, List.size_toArray, List.length_nil]; omega))
  refine wpAny_pure ?_
  show wpAny (model prog w) A (do
      let o ← load s.heap.objs.size
      match o.data with
      | .seq xs _ => pure xs.toList
      | _ => unsupported "internal:collect") Q E { s with heap := (s.heap.push (seqObj "list" #[] 0)).update s.heap.objs.size (Obj.mapSeq (· ++ vs.toArray)) }
  refine wpAny_bind (wpAny_load (get?_update_seq (Heap.get?_push_size _ rfl) _) ?_)
  show wpAny _ _ (pure ((#[] : Array Value) ++ vs.toArray).toList) Q E _
  rw [show ((#[] : Array Value) ++ vs.toArray).toList = vs by simp]
  exact wpAny_pure h
end
section
variable {prog : Program} {w : World} {A : Around} {E : Value → Shared → Prop} {s : Shared}
theorem sorted_ordT {l : Addr} {vs : List Value} {ltv : Value → Value → Bool} {Q : Value → Shared → Prop} (O : SrtO.Swo ltv) (hl : IsTup s.heap l vs.toArray) (hz : vs.length ≤ sizeLine)
    (hS : 2 ≤ vs.length → ∀ (h₁ : Heap) (a : Addr), h₁.get? a = some (seqObj "list" vs.toArray 0) → (∀ b o, s.heap.get? b = some o → b ≠ a ∧ h₁.get? b = some o) → SrtO.SortableO prog w A.in1.in1 { s with heap := h₁ } a vs ltv)
    (h : ∀ out : List Value, SrtO.Srtd ltv out → SrtO.Stb ltv out vs → Q (.ref (s.heap.objs.size + 1)) { s with heap := sortedAll s.heap vs out.toArray }) :
    wpAny (model prog w) A (call (.builtin "sorted") [.ref l]) Q E s := by
  refine Calls.call_function_entry kind_sorted plain_sorted entry_sorted (args_sorted1 _) ?_
  unfold Builtin.«sorted»
  refine wpAny_bind (m := checkCount "sorted" 1 1 _) (wpAny_pure ?_)
  refine wpAny_bind (collect_tup hl ?_ hz)
  refine wpAny_bind (wpAny_newList ?_ hz)
  have hsz : ((s.heap.push (seqObj "list" #[] 0)).update s.heap.objs.size (Obj.mapSeq (· ++ vs.toArray))).objs.size = s.heap.objs.size + 1 := by
    rw [Heap.size_update, size_push']
  have hoL : (((s.heap.push (seqObj "list" #[] 0)).update s.heap.objs.size (Obj.mapSeq (· ++ vs.toArray))).push (seqObj "list" vs.toArray 0)).get? (s.heap.objs.size + 1) = some (seqObj "list" vs.toArray 0) := by
    rw [← hsz]; exact Heap.get?_push_size _ rfl
  have keep : ∀ b o, s.heap.get? b = some o → b ≠ s.heap.objs.size + 1 ∧ (((s.heap.push (seqObj "list" #[] 0)).update s.heap.objs.size (Obj.mapSeq (· ++ vs.toArray))).push (seqObj "list" vs.toArray 0)).get? b = some o := fun b o q => by
    have hlt : b < s.heap.objs.size := Heap.lt_size q
    refine ⟨Nat.ne_of_lt (Nat.lt_succ_of_lt hlt), Heap.get?_push_of_some _ ?_⟩
    rw [Heap.get?_update_ne _ _ _ _ (Nat.ne_of_lt hlt)]
    exact Heap.get?_push_of_some _ q
  show wpAny _ _ _ _ _ { s with heap := ((s.heap.push (seqObj "list" #[] 0)).update s.heap.objs.size (Obj.mapSeq (· ++ vs.toArray))).push (seqObj "list" vs.toArray 0) }
  rw [hsz]
  refine wpAny_bind (wpAny_holding (wpAny_call_entry slot_list_sort ⟨_, hoL, rfl⟩ entry_list_sort (SrtO.list_sort_ord O hoL hz (fun h2 => hS h2 _ _ hoL keep) fun out hs hb => ⟨_, rfl, ?_⟩) (args_list_sort _)))
  exact wpAny_pure ⟨_, rfl, h out hs hb⟩
end
def rSortIX (K : PySem.W.Frag) : List V → Hp → VK → Prop := fun vs H Q => ∃ (a : Addr) (ns : List Int), vs = [V.ref a] ∧ (SqL K H a (ns.map V.int) ∨ SqT K H a (ns.map V.int)) ∧
  ∀ (ns' : List Int) (p : Addr), ns'.Perm ns → ns'.Pairwise (· ≤ ·) → H p = none → Q (.ref p) (upd H p (.lst (ns'.map V.int)))
theorem cr_sortedIX {X : Cx} : CallR X (.builtin "sorted") (rSortIX X.K) := by
  intro pins s σ H vs us Q I r h
  obtain ⟨a, ns, rfl, hs | hs, q⟩ := h
  · exact cr_sortedI pins s σ H _ us Q I r ⟨a, ns, rfl, hs, q⟩
  · obtain ⟨its, rv, hl, hz⟩ := I.tuple hs
    rw [Vals.ref1 r]
    have hi := rv.ints
    refine sorted_ordT SrtO.swo_int hl (by rw [← rv.length]; exact hz) (fun h2 h₁ a' _ _ => SrtO.ints_sortable hi h2) fun out h1 h2 => ?_
    obtain ⟨k1, k2, k3⟩ := SrtO.ints_out hi h1 h2
    obtain ⟨ep, he'⟩ := PyProof.Rows.sortedAll_at s.heap its out.toArray
    have hlen : ((out.map SrtO.iv).map V.int).length ≤ sizeLine := by
      rw [List.length_map, k2.length_eq]
      rw [List.length_map] at hz
      exact hz
    exact ⟨.ref _, upd H (s.heap.objs.size + 1) (.lst ((out.map SrtO.iv).map V.int)), I.laid (t' := s.toks) (fun _ _ => PyProof.Rows.sortedAll_old) (Nat.le_succ _) ⟨hlen, out, ep, vals_of_ints k1, he'⟩, rfl, q _ _ k2 k3 (I.hok.fresh (Nat.le_succ _))⟩
def sortX (l : List Int) : List Int := l.mergeSort fun a b => decide (a ≤ b)
theorem sortX_perm (l : List Int) : (sortX l).Perm l := List.mergeSort_perm ..
theorem sortX_le (l : List Int) : (sortX l).Pairwise (· ≤ ·) := by
  have := List.pairwise_mergeSort (le := fun a b : Int => decide (a ≤ b)) (fun a b c h1 h2 => by simp at *; omega) (fun a b => by simp; omega) l
  exact this.imp fun h => by simpa using h
theorem sortX_is {l l' : List Int} (h1 : l'.Perm l) (h2 : l'.Pairwise (· ≤ ·)) : l' = sortX l :=
  List.Perm.eq_of_pairwise (fun a b _ _ h1 h2 => by omega) h2 (sortX_le l) (h1.trans (sortX_perm l).symm)
/-- the ints of a list, of a tuple -/
def isortD (h : DH) : D → Option (List Int)
  | .tup ds => intsD ds
  | x => iseqD h x
def bSortI : List D → DH → Res D
  | [x], h => match isortD h x with
    | some ns => .ok (.ref h.length) (h ++ [.lst ((sortX ns).map D.int)])
    | none => .bad
  | _, _ => .bad
theorem ints_repL {K : PySem.W.Frag} {ρ : List Addr} {H : Hp} : ∀ l : List Int, RepL K ρ H (l.map D.int) (l.map V.int)
  | [] => .nil
  | a :: l => .cons (.int a) (ints_repL l)
theorem isortD_rep {K : PySem.W.Frag} {mg : Str → Option Value} {ρ : List Addr} {H : Hp} {dh : DH} {x : D} {v : V} {ns : List Int} (w : Wd K mg ρ dh H) (r : Rep K ρ H x v) (e : isortD dh x = some ns) : ∃ a, v = .ref a ∧ (SqL K H a (ns.map V.int) ∨ SqT K H a (ns.map V.int)) := by
  cases r with
  | tup t rl =>
    have q := intsD_rep rl e
    subst q
    exact ⟨_, rfl, .inr t.sq⟩
  | rol t rl =>
    obtain ⟨a, e1, s⟩ := iseqD_rep w (.rol t rl) e
    exact ⟨a, e1, .inl s⟩
  | ref ha =>
    obtain ⟨a, e1, s⟩ := iseqD_rep w (.ref ha) e
    exact ⟨a, e1, .inl s⟩
  | _ => cases e
theorem cs_sortI {K : PySem.W.Frag} {mg : Str → Option Value} : CallS K mg (rSortIX K) bSortI := by
  intro ρ dh H ds vs Q W τ w rx p
  unfold bSortI at p
  split at p
  · obtain ⟨v, rfl, r⟩ := rx.inv1
    split at p
    · rename_i ns e
      obtain ⟨a, rfl, s⟩ := isortD_rep w r e
      refine ⟨a, ns, rfl, s, fun ns' q h1 h2 hq => ?_⟩
      rw [sortX_is h1 h2]
      exact new_cell w p (fun a ha => ⟨_, upd_same, ints_repL _⟩) q hq
    · exact p.elim
  · exact p.elim
theorem bSortI_tup {l : List Int} {h : DH} : bSortI [.tup (l.map D.int)] h = .ok (.ref h.length) (h ++ [.lst ((sortX l).map D.int)]) := by simp only [bSortI, isortD, intsD_map]
theorem bSortI_lst {l : List Int} {h : DH} {n : Nat} (e : h[n]? = some (.lst (l.map D.int))) : bSortI [.ref n] h = .ok (.ref h.length) (h ++ [.lst ((sortX l).map D.int)]) := by simp only [bSortI, isortD, iseqD_lst e]

/-! ### x, y = a, b -/
def dPar (i j : Nat) (g : FA) : FS := dThen g fun xs σ h => match xs with
  | [x, y] => .nx ((σ.set i (some x)).set j (some y)) h
  | _ => .bad
@[simp] theorem dPar_ap {i j : Nat} {g : FA} {σ : DE} {h : DH} : dPar i j g σ h = RS.of σ (g σ h) fun xs h1 => (match xs with
  | [x, y] => .nx ((σ.set i (some x)).set j (some y)) h1
  | _ => .bad) := dThen_ap
theorem ds_par {X : Cx} {W : WX} {pos : Pos} {x y : Str} {a b : Expr} {px py pt : Pos} {kt k2 : Nat} {pt2 : Pos} {g : FA} (i j : Nat) (hc : X.calm = true) (hN : X.N.Nodup) (ha : PA X [a, b] (rA X.K X.mg W g))
    (hi : X.N[i]? = some x := by rfl) (hj : X.N[j]? = some y := by rfl) (hij : i ≠ j := by decide) (hx : X.env.scope.names.lookup x = some .local := by rfl) (hy : X.env.scope.names.lookup y = some .local := by rfl)
    (hw : swappedStores [.Tuple [.Name x px, .Name y py] kt pt] (.Tuple [a, b] k2 pt2) X.env = pure (some [x, y]) := by rfl) (hs : swapsWithSole [.Tuple [.Name x px, .Name y py] kt pt] (.Tuple [a, b] k2 pt2) pos.line X.env = pure false := by rfl) :
    PS X (.Assign [.Tuple [.Name x px, .Name y py] kt pt] (.Tuple [a, b] k2 pt2) pos) (rS X.K X.mg W (dPar i j g)) := by
  refine PS.weak (ps_par hc hN hi hj hij hx hy ha hw hs) fun D τ H r => ?_
  refine rd.mono (fun vs H1 => ?_) (rS_then (R := RepL X.K) r)
  rintro ⟨xs, σ, dh, ρ, w, s, rx, p⟩
  split at p
  · cases rx with
    | cons r1 r2 =>
      cases r2 with
      | cons r3 r4 =>
        cases r4
        exact ⟨_, _, rfl, p _ _ _ (Grow.refl _ _) w ((s.set r1 i).set r3 j)⟩
  · exact p.elim

/-! ### a dict display of constants -/
def dDispC (kvs : List (Key × D)) : FE := fun _ h => .ok (.ref h.length) (h ++ [.dic kvs])
@[simp] theorem dDispC_ap {kvs : List (Key × D)} {σ : DE} {h : DH} : dDispC kvs σ h = .ok (.ref h.length) (h ++ [.dic kvs]) := (rfl)
def absK : List (Key × D) → Option (List (Key × V))
  | [] => some []
  | (k, d) :: r => match absD d, absK r with
    | some v, some vs => some ((k, v) :: vs)
    | _, _ => none
theorem absK_rep {K : PySem.W.Frag} {ρ : List Addr} {H : Hp} : ∀ {kvs : List (Key × D)} {vs : List (Key × V)}, absK kvs = some vs → RepK K ρ H kvs vs
  | [], vs, e => by
    cases e
    exact .nil
  | (k, d) :: r, vs, e => by
    simp only [absK] at e
    split at e
    · rename_i v ws e1 e2
      cases e
      exact .cons ⟨rfl, absD_rep e1 ρ H⟩ (absK_rep e2)
    · cases e
theorem tPairs_c {σ : L2.St} : ∀ (vs : List (Key × V)) {H : Hp} {Q : List (V × V) → Hp → Prop}, Q (vs.map fun kv => (kV kv.1, kv.2)) H → tPairs (vs.map fun kv => (tC (kV kv.1), tC kv.2)) σ H Q
  | [], _, _, q => q
  | p :: vs, H, Q, q => tPairs_c vs (Q := fun ps H3 => Q ((kV p.1, p.2) :: ps) H3) q
theorem mergeK_nd : ∀ (vs acc : List (Key × V)), ((acc ++ vs).map (·.1)).Nodup → mergeK acc vs = acc ++ vs
  | [], acc, _ => by simp [mergeK]
  | p :: vs, acc, nd => by
    have h1 : valV acc p.1 = none := by
      unfold valV
      rw [Option.map_eq_none_iff, List.find?_eq_none]
      intro q hq
      rw [List.map_append, List.map_cons, List.nodup_append] at nd
      have := nd.2.2 q.1 (List.mem_map.mpr ⟨q, hq, rfl⟩) p.1 (List.mem_cons_self ..)
      simpa using this
    show mergeK (putK acc p.1 p.2) vs = _
    rw [putK_new p.2 h1, mergeK_nd vs _ (by rw [List.append_assoc]; exact nd), List.append_assoc]
    rfl
theorem de_dispC {X : Cx} {W : WX} {pos : Pos} {keys : List (Option Expr)} {values : List Expr} {kvs : List (Key × D)} {vs : List (Key × V)} (hv : absK kvs = some vs) (h : PPs X pos keys values (vs.map fun kv => (tC (kV kv.1), tC kv.2)))
    (hnd : (vs.map (·.1)).Nodup := by decide) (hall : keys.all (·.isSome) = true := by rfl) (hl : keys.length = values.length := by rfl) (h0 : keys ≠ [] := by simp) (h15 : keys.length ≤ 15 := by decide) (hn : vs.length ≤ 15 := by decide) :
    PE X (.Dict keys values pos) (rE X.K X.mg W (dDispC kvs)) := by
  refine PE.weak (pe_disp h hall hl h0 h15) fun τ H Q ⟨σ, dh, ρ, w, s, p⟩ => fun a ha => ?_
  refine tPairs_c vs ⟨upd_same, vs, rfl, hn, ?_⟩
  rw [mergeK_nd vs [] (by simpa using hnd), List.nil_append]
  have e : upd (upd H a (.dK [])) a (.dK vs) = upd H a (.dK vs) := by
    funext x
    unfold upd
    split <;> rfl
  rw [e]
  exact new_cell (c := .dic kvs) (o := .dK vs) w p (fun b hb => ⟨vs, upd_same, absK_rep hv⟩) a ha

/-! ### xs.insert(i, x) -/
def rIns : V → List V → Hp → VK → Prop := fun x vs H Q => ∃ (l : Addr) (xs : List V) (i : Int) (y : V), x = .ref l ∧ vs = [.int i, y] ∧ H l = some (.lst xs) ∧ xs.length < sizeLine ∧ 0 ≤ i ∧ i < 2 ^ 63 ∧ Q .non (upd H l (.lst (xs.take i.toNat ++ [y] ++ xs.drop i.toNat)))
def mInsert : D → List D → DH → Res D
  | .ref n, [.int i, y], h => match h[n]? with
    | some (.lst ds) => if ds.length < 16777216 ∧ 0 ≤ i ∧ i < 2 ^ 63 then .ok .non (h.set n (.lst (ds.take i.toNat ++ [y] ++ ds.drop i.toNat))) else .bad
    | _ => .bad
  | _, _, _ => .bad
theorem ms_insert {K : PySem.W.Frag} {mg : Str → Option Value} : MetS K mg rIns mInsert := by
  intro ρ dh H x v ds vs Q W τ w rx rs p
  unfold mInsert at p
  split at p
  · rename_i n i y
    cases rx with
    | ref ha =>
      rename_i a
      cases rs with
      | cons r1 r2 =>
        cases r1
        cases r2 with
        | cons r3 r4 =>
          cases r4
          split at p
          · rename_i ds hn
            split at p
            · rename_i hz
              obtain ⟨xs, hx, rl⟩ := cell_lst w hn ha
              refine ⟨a, xs, i, _, rfl, rfl, hx, size_lt (by rw [← rl.length]; exact hz.1), hz.2.1, hz.2.2, ?_⟩
              exact put_lst (es := ds) (ds := ds.take i.toNat ++ [y] ++ ds.drop i.toNat) w ha hx (((rl.take _).append (.one r3)).append (rl.drop _)) .non p
            · exact p.elim
          · exact p.elim
  · exact p.elim

/-! ### x, y, z = a list -/
def dUnpL (gs : DGs) (f : FE) : FS := dThen f fun d σ h => match d with
  | .ref n => (match h[n]? with
    | some (.lst ds) => (match gs ds σ with
      | some σ' => .nx σ' h
      | none => .bad)
    | _ => .bad)
  | _ => .bad
@[simp] theorem dUnpL_ap {gs : DGs} {f : FE} {σ : DE} {h : DH} : dUnpL gs f σ h = RS.of σ (f σ h) fun d h1 => (match d with
  | .ref n => (match h1[n]? with
    | some (.lst ds) => (match gs ds σ with
      | some σ' => .nx σ' h1
      | none => .bad)
    | _ => .bad)
  | _ => .bad) := dThen_ap
theorem ds_unpL {X : Cx} {W : WX} {es : List Expr} {e : Expr} {k n : Nat} {gs : DGs} {L : List Nat} {fe : FE} {tpos pos : Pos} (hc : X.calm = true) (he : PE X e (rE X.K X.mg W fe)) (hg : PGs X es (rGs X.K L gs)) (hl : ∀ ds σ σ', gs ds σ = some σ' → ds.length = n)
    (hn : (assignEach es X.env).length = n := by rfl) (hst : (assignEach es X.env).findIdx? (·.1) = none := by rfl)
    (hs : swapsWithSole [.Tuple es k tpos] e pos.line X.env = pure false := by rfl) (hw : swappedStores [.Tuple es k tpos] e X.env = pure none := by rfl)
    (h1 : (assignEach [.Tuple es k tpos] X.env).map (·.2) = [assign (.Tuple es k tpos) X.env] := by rfl) : PS X (.Assign [.Tuple es k tpos] e pos) (rS X.K X.mg W (dUnpL gs fe)) := by
  refine PS.weak (ps_asg he (pg_lst hc hg hn hst) hs hw h1) fun D τ H r => ?_
  refine rd.mono (fun v H1 => ?_) (rS_then (R := Rep X.K) r)
  rintro ⟨x, σ, dh, ρ, w, s, rx, p⟩
  cases rx with
  | ref ha =>
    simp only at p
    split at p
    · rename_i ds hk
      split at p
      · rename_i σ' eg
        obtain ⟨xs, hx, rl⟩ := cell_lst w hk ha
        exact ⟨_, xs, rfl, SqL.of hx, by rw [← rl.length]; exact hl _ _ _ eg, ρ, ds, σ, σ', rl, s, eg, fun τ' s' _ => p _ _ _ (Grow.refl _ _) w s'⟩
      · exact p.elim
    · exact p.elim
  | _ => exact p.elim
end DL

/-! The data layer: sorted(set(a list of ints)). -/
namespace DS
open PySem PySem.Spec PyProof.Rows L2
section
variable {P : Program} {w : World} {A : Around} {E : Value → Shared → Prop} {s : Shared}
/-- an empty set's object -/
def oS (w : World) : Obj := ⟨.type "set", none, .set #[] 0 (.fresh 0 0 (!w.params.followText "set-order")), #[]⟩
def with1 (s : Shared) (h : Heap) : Shared := { s with heap := h }
/-- the init of a set from a list of ints -/
theorem init_lst {l : Addr} {xs : Array Value} (ns : List Int) {R : Result → Shared → Prop} (hA : A.handled = none) (hl : s.heap.IsList l xs) (hx : IntsAre xs.toList ns) (hb : ns.length + 1 < scanBound)
    (hR : ∀ (h' : Heap) (tk c : Nat), SetR w h' s.heap.objs.size (fun j => decide (j ∈ ns)) c → c ≤ ns.length → (∀ b o, s.heap.get? b = some o → h'.get? b = some o) → R (.ok (.ret .none)) { s with heap := h', toks := tk }) :
    wpAny (model P w) A.in1 (Builtin.«set.__init__» ⟨[.ref s.heap.objs.size, .ref l], []⟩)
      (fun fin s' => match fin with | .done f => R (.ok f) s' | .again c' => c'.quiet = true ∧ codeAny (model P w) A c' R s') (fun e s' => R (.error e) s') (with1 s (s.heap.push (oS w))) := by
  have hz : xs.size = ns.length := by have q := hx.length; rwa [Array.length_toList] at q
  obtain ⟨⟨oc, od, oa, os⟩, ho, ho2, nl, ho3⟩ := hl
  obtain rfl : oc = .type "list" := ho2
  obtain rfl : oa = .seq xs nl := ho3
  have hp : (s.heap.push (oS w)).get? l = some { cls := .type "list", dict := od, data := .seq xs nl, slots := os } := Heap.get?_push_of_some _ ho
  have hsn : (s.heap.push (oS w)).get? s.heap.objs.size = some (oS w) := Heap.get?_push_size _ rfl
  have lp : (s.heap.push (oS w)).IsList l xs := ⟨_, hp, rfl, nl, rfl⟩
  have T1 := F.sub_list_set; have T2 := F.sub_list_frozenset
  have T3 : (Value.type "list" == Value.type "dict") = false := by decide
  have ll : l < s.heap.objs.size := Heap.lt_size ho
  have z1 : (s.heap.push (oS w)).objs.size = s.heap.objs.size + 1 := Heap.size_push ..
  unfold Builtin.«set.__init__» noKeywords Builtin.Frozenset.updateFrom with1
  generalize e0 : pyIter = it0
  wp_walk
  subst e0
  refine wpAny_pyIter_list lp (wpAny_bind (wpAny_runValue ?_))
  have hh : A.in1.in1.handled = none := by simp [hA]
  have n1 : l ≠ (s.heap.push (oS w)).objs.size := by rw [z1]; exact Nat.ne_of_lt (Nat.lt_succ_of_lt ll)
  have n2 : s.heap.objs.size ∉ [(s.heap.push (oS w)).objs.size, l] := by
    rw [z1]
    intro q
    rcases List.mem_cons.mp q with q | q
    · exact Nat.ne_of_lt (Nat.lt_succ_self _) q
    · exact Nat.ne_of_gt ll (List.mem_singleton.mp q)
  refine set_update_ints ((Walks.list hh _ l n1 xs).toS) s.heap.objs.size n2 ns hz hb (fun i v hv => ?_) (xs.size - 0) 0 _ (by omega) (Nat.zero_le _) ?_ ?_ fun s' c hm hc hS => ?_
  · have hi : i < ns.length := by rw [← hz]; exact (Array.getElem?_eq_some_iff.mp hv).1
    obtain ⟨t, e⟩ := PyProof.Rows.IntsAre.int_at hx i v (by rw [Array.getElem?_toList]; exact hv)
    exact ⟨ns[i], t, List.getElem?_eq_getElem hi, by rw [e, List.getD_eq_getElem?_getD, List.getElem?_eq_getElem hi]; rfl⟩
  · exact ⟨⟨_, Heap.get?_push_size _ rfl, rfl, rfl⟩, lp.push _⟩
  · exact ⟨0, Nat.le_refl 0, setR_new_at (Heap.get?_push_of_some _ hsn)⟩
  · have e : s' = { s with heap := s'.heap, toks := s'.toks } := by
      have a1 : s'.gens = s.gens := hm.gens
      have a2 : s'.drawn = s.drawn := hm.drawn
      have a3 : s'.os = s.os := hm.os
      cases s'; cases s; cases a1; cases a2; cases a3; rfl
    rw [e]
    show wpAny _ _ _ _ _ _
    refine wpAny_pure ?_
    show wpAny _ _ (ret Value.none) _ _ _
    exact wpAny_pure (hR _ _ c hS (by omega) fun b o eb => by
      have lb := Heap.lt_size eb
      exact hm.heap b o (fun q => by
        rw [z1] at q
        rcases List.mem_cons.mp q with q | q
        · exact Nat.ne_of_lt lb q
        · exact Nat.ne_of_lt (Nat.lt_succ_of_lt lb) (List.mem_singleton.mp q)) (Heap.get?_push_of_some _ (Heap.get?_push_of_some _ eb)))
/-- set(a list of ints): a new set, its members -/
theorem call_lst {l : Addr} {xs : Array Value} (ns : List Int) {Q : Value → Shared → Prop} (hA : A.handled = none) (hl : s.heap.IsList l xs) (hx : IntsAre xs.toList ns) (hb : ns.length + 1 < scanBound)
    (hQ : ∀ (h' : Heap) (tk c : Nat), SetR w h' s.heap.objs.size (fun j => decide (j ∈ ns)) c → c ≤ ns.length → (∀ b o, s.heap.get? b = some o → h'.get? b = some o) → Q (.ref s.heap.objs.size) { s with heap := h', toks := tk }) :
    wpAny (model P w) A (call (.type "set") [.ref l]) Q E s := by
  obtain ⟨m0, m1, m2⟩ := F.called_set.mro; have m3 := F.called_set.made; have m4 := F.called_set.sub
  refine wpAny_call (codeAny_of_tree (show wpAny _ _ (callAny (.type "set") _) _ _ _ from ?_))
  refine wpAny_pure ⟨Code.quiet_builtin _ (by decide +kernel), codeAny_builtin F.entry_type_call (by
    rw [Around.under_plain (weight_type_call_type "set" [.ref l] []) rfl]
    have m5 := F.called_set.notType; have m6 := F.called_set.canCreate; have m7 := F.typeCall_set_1 (.ref l)
    repeat any_goals first | assumption | wp_step
    refine codeAny_mono (code_set_led1 (.ref l) (E := E) (Q₁ := fun x t => x = .ref s.heap.objs.size ∧ t = with1 s (s.heap.push (oS w))) ⟨rfl, rfl⟩) fun r t hr => ?_
    match r, hr with
    | .error e, hr => exact hr
    | .ok (.ret x), hr =>
      obtain ⟨ex, et⟩ := hr
      subst ex et
      have g0 : (s.heap.push (oS w)).get? s.heap.objs.size = some (oS w) := Heap.get?_push_size _ rfl
      have g1 : Shared.TypeIs (with1 s (s.heap.push (oS w))) (.ref s.heap.objs.size) "set" := ⟨_, g0, rfl⟩
      have g2 := F.called_set.init.lookup; have g3 := F.called_set.init.bind (.ref s.heap.objs.size)
      repeat any_goals first | assumption | wp_step
      refine codeAny_mono (codeAny_call_builtin (R := wants (fun r u => r = .none ∧ Q (.ref s.heap.objs.size) u) E) F.called_set.init.plain F.entry_set_init (check_set_init_1 g1 ?_)) fun r2 u hr2 => ?_
      · exact init_lst ns (by simp [hA]) hl hx hb fun h' tk c h1 h2 h3 => ⟨rfl, hQ h' tk c h1 h2 h3⟩
      · match r2, hr2 with
        | .error e, hr2 => exact hr2
        | .ok (.ret r), hr2 =>
          obtain ⟨er, q⟩ := hr2
          subst er
          repeat any_goals first | assumption | wp_step
        | .ok .next, hr2 => exact hr2.elim
        | .ok .brk, hr2 => exact hr2.elim
        | .ok .cont, hr2 => exact hr2.elim
    | .ok .next, hr => exact hr.elim
    | .ok .brk, hr => exact hr.elim
    | .ok .cont, hr => exact hr.elim)⟩
end
end DS
namespace DL
open PySem PySem.Spec L2
open PyProof.Rows hiding St
/-! ### the members of a list of ints, each once, ascending -/
def insI (x : Int) : List Int → List Int
  | [] => [x]
  | a :: l => if x < a then x :: a :: l else if x = a then a :: l else a :: insI x l
def ascI (ns : List Int) : List Int := ns.foldr insI []
theorem insI_mem {x k : Int} : ∀ {l : List Int}, k ∈ insI x l ↔ k = x ∨ k ∈ l
  | [] => by simp [insI]
  | a :: l => by
    unfold insI
    split
    · simp
    · split
      · next e => subst e; simp
      · rw [List.mem_cons, List.mem_cons, insI_mem (l := l)]
        constructor
        · rintro (h | h | h)
          · exact .inr (.inl h)
          · exact .inl h
          · exact .inr (.inr h)
        · rintro (h | h | h)
          · exact .inr (.inl h)
          · exact .inl h
          · exact .inr (.inr h)
theorem insI_pair {x : Int} : ∀ {l : List Int}, l.Pairwise (· < ·) → (insI x l).Pairwise (· < ·)
  | [], _ => by simp [insI]
  | a :: l, h => by
    have h1 := List.pairwise_cons.mp h
    unfold insI
    split
    · next lt =>
      refine List.pairwise_cons.mpr ⟨fun b hb => ?_, h⟩
      rcases List.mem_cons.mp hb with e | hb
      · omega
      · have := h1.1 b hb; omega
    · split
      · exact h
      · refine List.pairwise_cons.mpr ⟨fun b hb => ?_, insI_pair h1.2⟩
        rcases insI_mem.mp hb with e | hb
        · omega
        · exact h1.1 b hb
theorem insI_len {x : Int} : ∀ {l : List Int}, l.Pairwise (· < ·) → (insI x l).length = if x ∈ l then l.length else l.length + 1
  | [], _ => by simp [insI]
  | a :: l, h => by
    have h1 := List.pairwise_cons.mp h
    unfold insI
    split
    · next lt =>
      have : x ∉ a :: l := fun hx => by
        rcases List.mem_cons.mp hx with e | hx
        · omega
        · have := h1.1 x hx; omega
      rw [if_neg this]
      rfl
    · split
      · next e => rw [if_pos (by rw [e]; exact List.mem_cons_self)]
      · next ne =>
        rw [List.length_cons, insI_len h1.2]
        by_cases hx : x ∈ l
        · rw [if_pos hx, if_pos (List.mem_cons_of_mem _ hx)]; rfl
        · rw [if_neg hx, if_neg (fun q => (List.mem_cons.mp q).elim ne hx)]; rfl
theorem ascI_mem {k : Int} : ∀ {ns : List Int}, k ∈ ascI ns ↔ k ∈ ns
  | [] => Iff.rfl
  | a :: l => by
    show k ∈ insI a (ascI l) ↔ _
    rw [insI_mem, ascI_mem (ns := l), List.mem_cons]
theorem ascI_pair : ∀ ns : List Int, (ascI ns).Pairwise (· < ·)
  | [] => List.Pairwise.nil
  | a :: l => insI_pair (ascI_pair l)
theorem ascI_le : ∀ ns : List Int, (ascI ns).length ≤ ns.length
  | [] => Nat.le_refl _
  | a :: l => by
    show (insI a (ascI l)).length ≤ _
    have := ascI_le l
    rw [insI_len (ascI_pair l), List.length_cons]
    split <;> omega
theorem ascI_nodup : ∀ ns : List Int, (ascI ns).length = ns.length ↔ ns.Nodup
  | [] => by simp [ascI]
  | a :: l => by
    show (insI a (ascI l)).length = _ ↔ _
    have i := ascI_nodup l
    have le := ascI_le l
    rw [insI_len (ascI_pair l), List.length_cons, List.nodup_cons]
    by_cases h : a ∈ l
    · rw [if_pos (ascI_mem.mpr h)]
      exact ⟨fun e => by omega, fun e => absurd h e.1⟩
    · rw [if_neg (fun q => h (ascI_mem.mp q)), ← i]
      exact ⟨fun e => ⟨h, by omega⟩, fun e => by omega⟩
theorem asc_one : ∀ {a b : List Int}, a.Pairwise (· < ·) → b.Pairwise (· < ·) → (∀ k, k ∈ a ↔ k ∈ b) → a = b
  | [], [], _, _, _ => rfl
  | [], y :: b, _, _, h => absurd ((h y).mpr List.mem_cons_self) (by simp)
  | x :: a, [], _, _, h => absurd ((h x).mp List.mem_cons_self) (by simp)
  | x :: a, y :: b, ha, hb, h => by
    have a1 := List.pairwise_cons.mp ha
    have b1 := List.pairwise_cons.mp hb
    have e : x = y := by
      rcases List.mem_cons.mp ((h x).mp List.mem_cons_self) with e | e
      · exact e
      · rcases List.mem_cons.mp ((h y).mpr List.mem_cons_self) with q | q
        · exact q.symm
        · have := a1.1 y q; have := b1.1 x e; omega
    subst e
    rw [asc_one a1.2 b1.2 fun k => ⟨fun hk => ?_, fun hk => ?_⟩]
    · rcases List.mem_cons.mp ((h k).mp (List.mem_cons_of_mem _ hk)) with e | e
      · have := a1.1 k hk; omega
      · exact e
    · rcases List.mem_cons.mp ((h k).mpr (List.mem_cons_of_mem _ hk)) with e | e
      · have := b1.1 k hk; omega
      · exact e
end DL
namespace DS
open PySem PySem.Spec PyProof.Rows L2
/-- sorted(set(x)), x a list of less than 64 ints -/
def tSortSet (K : PySem.W.Frag) (te : TE) : TE := fun σ H Q => te σ H fun v H1 => ∃ (a : Addr) (ns : List Int), v = .ref a ∧ H1 a = some (.lst (ns.map V.int)) ∧ ns.length < 64 ∧ ∀ q, H1 q = none → Q (.ref q) (upd H1 q (.lst ((DL.ascI ns).map V.int)))
theorem pe_sortSet {X : Cx} {e : Expr} {te : TE} {p p2 pos pos2 : Pos} (hc : X.calm = true) (hg : Gl X "sorted") (hm : X.mg "sorted" = none) (hg2 : Gl X "set") (hm2 : X.mg "set" = none) (he : PE X e te)
    (hs : starEach [e] X.env = (false, eval e X.env) :: starEach [] X.env := by rfl)
    (hs2 : starEach [.Call (.Name "set" p2) [e] [] pos2] X.env = (false, eval (.Call (.Name "set" p2) [e] [] pos2) X.env) :: starEach [] X.env := by rfl) :
    PE X (.Call (.Name "sorted" p) [.Call (.Name "set" p2) [e] [] pos2] [] pos) (tSortSet X.K te) := by
  refine ⟨fun pins s σ H Q I h => ?_⟩
  refine Call_ (ld_blt I hg hm boot_sorted (PyProof.Rows.callWith_builtin1 (args_cons (Call_ (ld_blt I hg2 hm2 boot_set (PyProof.Rows.callWith_type1 (args_cons (thn (he.run pins s σ H _ I h) fun u s1 ⟨v, H1, I1, r1, q1⟩ => args_nil ?_) hs) hs rfl))) hs2) hs2 rfl))
  obtain ⟨a, ns, ev, hq, h64, q⟩ := q1
  subst ev
  obtain rfl : u = Value.ref a := r1
  obtain ⟨its, rv, pl, hz⟩ := I1.list (SqL.of hq)
  have it := RZ.intsAre_vals rv
  refine call_lst ns (I1.ok.hd hc) pl.isList (by simpa using it) (by unfold scanBound; omega) fun h' tk c R hcn kp => args_nil ?_
  have I2 : Inv X pins σ H1 { s1 with heap := h', toks := tk } := I1.kept kp
  generalize hs2 : ({ s1 with heap := h', toks := tk } : Shared) = s2 at *
  have R : SetR X.w s2.heap s1.heap.objs.size (fun j => decide (j ∈ ns)) c := by rw [← hs2]; exact R
  refine sorted_set R (I2.ok.hd hc) (by omega) fun s' p out c2 ms k g o hp hgt hi hs hm hl => ?_
  have em : ms = DL.ascI ns := DL.asc_one hs (DL.ascI_pair ns) fun j => by
    rw [hm j, DL.ascI_mem, decide_eq_true_iff]
  subst em
  have len : ((DL.ascI ns).map V.int).length ≤ sizeLine := by
    have := DL.ascI_le ns
    rw [List.length_map, sizeLine_eq]; omega
  have nw : H1 p = none := I2.hok.fresh hp
  have J : Inv X pins σ (upd H1 p (.lst ((DL.ascI ns).map V.int))) { s2 with heap := s'.heap, gens := s'.gens, drawn := s'.drawn, toks := s'.toks } :=
    I2.call (ch := []) (Un.laid k hp nw) (I2.hok.laid k hp ⟨len, out.toList, c2, vals_of_ints hi, hgt⟩) (by rw [g]; exact I2.bare) (fun _ z => nomatch z)
  have e : s' = { s2 with heap := s'.heap, gens := s'.gens, drawn := s'.drawn, toks := s'.toks } := by
    cases s'; cases s2; cases o; rfl
  rw [e]
  exact ⟨.ref p, _, J, rfl, q p nw⟩
end DS
namespace DL
open PySem PySem.Spec L2
open PyProof.Rows hiding St
def bSortSet : List D → DH → Res D
  | [.ref n], h => match h[n]? with
    | some (.lst ds) => match intsD ds with
      | some ns => if ns.length < 64 then .ok (.ref h.length) (h ++ [.lst ((ascI ns).map D.int)]) else .bad
      | none => .bad
    | _ => .bad
  | _, _ => .bad
def dSortSet (f : FE) : FE := fun σ h => (f σ h).bind fun x h1 => bSortSet [x] h1
@[simp] theorem dSortSet_ap {f : FE} {σ : DE} {h : DH} : dSortSet f σ h = (f σ h).bind fun x h1 => bSortSet [x] h1 := (rfl)
theorem bSortSet_lst {l : List Int} {h : DH} {n : Nat} (e : h[n]? = some (.lst (l.map D.int))) (hl : l.length < 64) : bSortSet [.ref n] h = .ok (.ref h.length) (h ++ [.lst ((ascI l).map D.int)]) := by
  simp only [bSortSet, e, intsD_map, if_pos hl]
section
variable {X : Cx} {W : WX}
theorem de_sortSet {e : Expr} {f : FE} {p p2 pos pos2 : Pos} (hc : X.calm = true) (hm : X.mg "sorted" = none) (hm2 : X.mg "set" = none) (he : PE X e (rE X.K X.mg W f)) (hg : Gl X "sorted" := by rfl) (hg2 : Gl X "set" := by rfl)
    (hs : starEach [e] X.env = (false, eval e X.env) :: starEach [] X.env := by rfl)
    (hs2 : starEach [.Call (.Name "set" p2) [e] [] pos2] X.env = (false, eval (.Call (.Name "set" p2) [e] [] pos2) X.env) :: starEach [] X.env := by rfl) :
    PE X (.Call (.Name "sorted" p) [.Call (.Name "set" p2) [e] [] pos2] [] pos) (rE X.K X.mg W (dSortSet f)) := by
  refine PE.weak (DS.pe_sortSet hc hg hm hg2 hm2 he hs hs2) fun τ H Q h => ?_
  obtain ⟨σ, dh, ρ, w, s, p⟩ := h
  refine ⟨σ, dh, ρ, w, s, ?_⟩
  refine Pst.mono (Pst.bind (R := Rep X.K) p) ?_
  rintro v H1 ⟨x, h1, ρ1, g1, w1, rx, p1⟩
  unfold bSortSet at p1
  cases rx with
  | ref ha =>
    simp only at p1
    split at p1
    · rename_i ds hk
      obtain ⟨xs, hx, r⟩ := cell_lst w1 hk ha
      split at p1
      · rename_i ns en
        have q := intsD_rep r en
        subst q
        split at p1
        · rename_i hl
          exact ⟨_, _, rfl, hx, hl, new_lst w1 (ints_repL _) p1⟩
        · exact p1.elim
      · exact p1.elim
    · exact p1.elim
  | _ => exact p1.elim
end
end DL

/-! The data layer: sorted(a list of tuples of a text and ints). -/
namespace DA
open PySem PySem.Spec L2
open PyProof.Rows hiding St
abbrev Ky := List (Int ⊕ List Nat)
def sh0 (i : Nat) : Bool := i == 0
def ltK (a b : Ky) : Bool := PyProof.Rows.lexLt itemOrd a b
theorem swo_ky {α : Type} (k : α → Ky) : SrtO.Swo fun v u : α => ltK (k v) (k u) := by
  refine ⟨fun x y h => ?_, fun x y z h1 h2 => ?_⟩
  · cases q : ltK (k y) (k x) with
    | false => rfl
    | true =>
      have t := lex_trans (O := itemOrd) _ _ _ h q
      rw [lex_irrefl] at t
      exact t.symm
  · cases q : ltK (k z) (k x) with
    | false => rfl
    | true =>
      rcases lex_negTrans (O := itemOrd) _ (k y) _ q with t | t
      · exact t.symm.trans h2
      · exact t.symm.trans h1
def keyV (w : Str) (ns : List Int) : Ky := .inr w.cps.toList :: ns.map .inl
/-- a tuple of a text and ints, as it lies in the heap -/
def ActAt (h : Heap) (v : Value) (k : Ky) : Prop := ∃ (a : Addr) (o : Obj) (xs : Array Value) (n : Nat) (w : Str) (t : Tok), v = .ref a ∧ h.get? a = some o ∧ o.cls = .type "tuple" ∧ o.data = .seq xs n ∧ xs[0]? = some (.str w t) ∧ tupItems sh0 0 xs.toList = some k
theorem ActAt.keeps {h h' : Heap} {v : Value} {k : Ky} (x : ActAt h v k) (kp : ∀ b o, h.get? b = some o → o.cls = .type "tuple" → h'.get? b = some o) : ActAt h' v k := by
  obtain ⟨a, o, xs, n, w, t, e, ho, hc, r⟩ := x
  exact ⟨a, o, xs, n, w, t, e, kp _ _ ho hc, hc, r⟩
theorem ActAt.key {h : Heap} {v : Value} {k : Ky} (x : ActAt h v k) : tupKey h sh0 v = some k := by
  obtain ⟨a, o, xs, n, w, t, e, ho, hc, hd, _, hk⟩ := x
  subst e
  simp only [tupKey, ho, hd]
  exact hk
theorem acts_of {h : Heap} : ∀ {vs : List Value}, (∀ v ∈ vs, ∃ k, ActAt h v k) → ∃ fs, TupsOf h sh0 vs fs ∧ fs.length = vs.length
  | [], _ => ⟨[], .nil, rfl⟩
  | v :: vs, hv => by
    obtain ⟨fs, h1, h2⟩ := acts_of fun u hu => hv u (List.mem_cons_of_mem _ hu)
    obtain ⟨k, a, o, xs, n, w, t, e, ho, hc, hd, hf, _⟩ := hv v List.mem_cons_self
    exact ⟨.str w t :: fs, .cons ⟨a, o, xs, n, e, ho, hc, hd, hf, fun z => (by cases z), fun _ => ⟨w, t, rfl⟩⟩ h1, by rw [List.length_cons, List.length_cons, h2]⟩
section
variable {P : Program} {w : World} {A : Around} {E : Value → Shared → Prop} {s : Shared}
theorem acts_sortable {a : Addr} {vs : List Value} {k : Value → Ky} (h0 : 0 < vs.length) (hv : ∀ v ∈ vs, ActAt s.heap v (k v)) (ha : ∀ o, s.heap.get? a = some o → o.cls ≠ .type "tuple") : SrtO.SortableO P w A s a vs fun v u => ltK (k v) (k u) := by
  intro h' keep
  have hv' : ∀ v ∈ vs, ActAt h' v (k v) := fun v hm => (hv v hm).keeps fun b o e c => keep b o (fun z => by subst z; exact ha o e c) e
  obtain ⟨fs, t1, t2⟩ := acts_of fun v hm => ⟨_, hv' v hm⟩
  refine ⟨tuples' true, fun Q E hq => tup_kind (by omega) t1 hq, fun p q hm hm' => ?_⟩
  exact tup_ltAt (shape := sh0) true A _ _ _ _ _ (hv' _ hm).key (hv' _ hm').key ⟨rfl, rfl⟩
end
theorem items_key {w : Str} {ns : List Int} {its : List Value} (r : Vals (V.str w :: ns.map V.int) its) : tupItems sh0 0 its = some (keyV w ns) ∧ ∃ t r', its = .str w t :: r' := by
  have key : ∀ (ns : List Int) (its : List Value) (i : Nat), 0 < i → Vals (ns.map V.int) its → tupItems sh0 i its = some (ns.map .inl) := by
    intro ns
    induction ns with
    | nil =>
      intro its i hi r
      rw [List.map_nil] at r
      cases r
      rfl
    | cons n ns ih =>
      intro its i hi r
      rw [List.map_cons] at r
      cases r with
      | cons h q =>
        obtain ⟨t, rfl⟩ := h
        have e := ih _ (i + 1) (by omega) q
        have s0 : sh0 i = false := by unfold sh0; simp; omega
        simp only [tupItems, s0, e, Bool.false_eq_true, if_false, Option.map_some, List.map_cons]
  cases r with
  | cons h q =>
    obtain ⟨t, rfl⟩ := h
    have e := key ns _ 1 (by decide) q
    refine ⟨?_, t, _, rfl⟩
    have s0 : sh0 0 = true := rfl
    simp only [tupItems, s0, e, if_true, Option.map_some, keyV]
def Uq (K : PySem.W.Frag) (H : Hp) : Prop := ∀ (t : Addr) (xs ys : List V), SqT K H t xs → SqT K H t ys → xs = ys
theorem relV_inj {x y : V} {u : Value} (h1 : L2.RelV x u) (h2 : L2.RelV y u) : x = y := by
  cases x <;> cases y <;> simp only [L2.RelV] at h1 h2 <;> first
    | (obtain ⟨t, rfl⟩ := h1; obtain ⟨t', h2⟩ := h2; cases h2; done)
    | (obtain ⟨t, rfl⟩ := h1; obtain ⟨t', h2⟩ := h2; cases h2; rfl)
    | (obtain ⟨t, rfl⟩ := h1; cases h2; done)
    | (subst h1; obtain ⟨t', h2⟩ := h2; cases h2; done)
    | (subst h1; cases h2; done)
    | (subst h1; cases h2; rfl)
theorem vals_inj : ∀ {xs ys : List V} {us : List Value}, Vals xs us → Vals ys us → xs = ys
  | [], [], _, _, _ => rfl
  | [], _ :: _, _, h1, h2 => by cases h1; cases h2
  | _ :: _, [], _, h1, h2 => by cases h2; cases h1
  | x :: xs, y :: ys, _, h1, h2 => by
    cases h1 with
    | cons a b =>
      cases h2 with
      | cons c d => rw [relV_inj a c, vals_inj b d]
theorem uq_of {X : Cx} {pins : List (Addr × Obj)} {σ : L2.St} {H : Hp} {s : Shared} (I : Inv X pins σ H s) : Uq X.K H := fun t xs ys h1 h2 => by
  obtain ⟨i1, r1, ⟨o, ho, _, n, hd⟩, _⟩ := I.tuple h1
  obtain ⟨i2, r2, ⟨o2, ho2, _, n2, hd2⟩, _⟩ := I.tuple h2
  rw [ho] at ho2
  cases ho2
  rw [hd] at hd2
  injection hd2 with e _
  have e : i1 = i2 := by simpa using e
  subst e
  exact vals_inj r1 r2
def rSortA (K : PySem.W.Frag) : List V → Hp → VK → Prop := fun vs H Q => ∃ (a : Addr) (ts : List Addr), vs = [V.ref a] ∧ SqL K H a (ts.map V.ref) ∧ (Uq K H → ∃ k : Addr → Ky, (∀ t ∈ ts, ∃ w ns, SqT K H t (V.str w :: ns.map V.int) ∧ k t = keyV w ns) ∧
  ∀ (ts' : List Addr) (p : Addr), ts'.Perm ts → ts'.Pairwise (fun t u => ltK (k u) (k t) = false) → H p = none → Q (.ref p) (upd H p (.lst (ts'.map V.ref))))
theorem cr_sortA {X : Cx} : CallR X (.builtin "sorted") (rSortA X.K) := by
  intro pins s σ H vs us Q I r h
  obtain ⟨a, ts, rfl, hs, nx⟩ := h
  obtain ⟨k, hN, q⟩ := nx (uq_of I)
  rw [Vals.ref1 r]
  obtain ⟨its, rv, hl, hz⟩ := I.list hs
  have ei := nts_of rv
  have hv : ∀ u ∈ its, ActAt s.heap u (k (adO u)) := fun u hm => by
    rw [ei] at hm
    obtain ⟨t, ht, rfl⟩ := List.mem_map.mp hm
    obtain ⟨w, ns, st, ek⟩ := hN t ht
    obtain ⟨zs, rz, hl2, _⟩ := I.tuple st
    obtain ⟨hk, tk, r', ez⟩ := items_key rz
    obtain ⟨o, ho, hc, n, hd⟩ := hl2
    refine ⟨t, o, zs.toArray, n, w, tk, rfl, ho, hc, hd, ?_, ?_⟩
    · rw [ez]; rfl
    · rw [show adO (Value.ref t) = t from rfl, ek]
      exact hk
  refine SrtO.sorted_ord (swo_ky fun u => k (adO u)) hl.isList (by rw [← rv.length]; exact hz) (fun h2 h₁ b hb kk => acts_sortable (s := { s with heap := h₁ }) (by omega) (fun v hm => (hv v hm).keeps fun c o e _ => (kk c o e).2) fun o e => ?_) fun out h1 h2 => ?_
  · have e' : some o = some (seqObj "list" its.toArray 0) := e.symm.trans hb
    cases e'
    intro c
    exact absurd (Value.type.inj c) (by decide)
  · have eo : out = (out.map adO).map Value.ref := ref_map fun u hm => by
      have hm' : u ∈ its := h2.perm.mem_iff.mp hm
      rw [ei] at hm'
      obtain ⟨t, _, e⟩ := List.mem_map.mp hm'
      exact ⟨t, e.symm⟩
    have hp : (out.map adO).Perm ts := by
      have p1 := h2.perm.map adO
      rwa [ei, ad_map] at p1
    have hs2 : (out.map adO).Pairwise (fun t u => ltK (k u) (k t) = false) := List.pairwise_map.mpr (h1.imp fun {x y} z => z)
    have hlen : ((out.map adO).map V.ref).length ≤ sizeLine := by
      rw [List.length_map, hp.length_eq]
      rwa [List.length_map] at hz
    have rvo : Vals ((out.map adO).map V.ref) out := by
      have z := of_nts (out.map adO)
      rwa [← eo] at z
    obtain ⟨ep, he'⟩ := PyProof.Rows.sortedAll_at s.heap its out.toArray
    exact ⟨.ref _, upd H (s.heap.objs.size + 1) (.lst ((out.map adO).map V.ref)), I.laid (t' := s.toks) (fun _ _ => PyProof.Rows.sortedAll_old) (Nat.le_succ _) ⟨hlen, out, ep, rvo, he'⟩, rfl, q _ _ hp hs2 (I.hok.fresh (Nat.le_succ _))⟩
end DA
namespace DL
open PySem PySem.Spec L2
open PyProof.Rows hiding St
/-- a tuple of a text and ints -/
def aD : D → Option (Str × List Int)
  | .tup (.str w :: r) => (intsD r).map fun ns => (w, ns)
  | _ => none
theorem aD_some {d : D} {w : Str} {ns : List Int} (h : aD d = some (w, ns)) : d = .tup (.str w :: ns.map D.int) := by
  match d, h with
  | .tup (.str w' :: r), h =>
    simp only [aD] at h
    obtain ⟨ms, e1, e2⟩ := Option.map_eq_some_iff.mp h
    cases e2
    have : ∀ (r : List D) (ms : List Int), intsD r = some ms → r = ms.map D.int := by
      intro r
      induction r with
      | nil => intro ms e; cases e; rfl
      | cons d r ih =>
        intro ms e
        cases d <;> simp only [intsD] at e <;> first | cases e | skip
        obtain ⟨ys, e1, rfl⟩ := Option.map_eq_some_iff.mp e
        rw [ih _ e1]
        rfl
    rw [this _ _ e1]
theorem aD_tup (w : Str) (ns : List Int) : aD (.tup (.str w :: ns.map D.int)) = some (w, ns) := by simp only [aD, intsD_map, Option.map_some]
def keyA (d : D) : DA.Ky := match aD d with
  | some (w, ns) => DA.keyV w ns
  | none => []
theorem keyV_inj {w v : Str} {ns ms : List Int} (h : DA.keyV w ns = DA.keyV v ms) : w = v ∧ ns = ms := by
  unfold DA.keyV at h
  injection h with h1 h2
  have e0 : w = v := by
    have e := Sum.inr.inj h1
    cases w
    cases v
    simp only at e
    congr
    exact Array.toList_inj.mp e
  refine ⟨e0, ?_⟩
  have : ∀ (ns ms : List Int), ns.map (Sum.inl (β := List Nat)) = ms.map Sum.inl → ns = ms := by
    intro ns
    induction ns with
    | nil => intro ms h; cases ms with
      | nil => rfl
      | cons _ _ => cases h
    | cons a ns ih => intro ms h; cases ms with
      | nil => cases h
      | cons b ms =>
        rw [List.map_cons, List.map_cons] at h
        injection h with h1 h2
        rw [Sum.inl.inj h1, ih _ h2]
  exact this _ _ h2
def leA (a b : D) : Bool := !DA.ltK (keyA b) (keyA a)
def sortA (ds : List D) : List D := ds.mergeSort leA
theorem sortA_perm (ds : List D) : (sortA ds).Perm ds := List.mergeSort_perm ..
theorem leA_trans (a b c : D) (h1 : leA a b = true) (h2 : leA b c = true) : leA a c = true := by
  have O := DA.swo_ky keyA
  unfold leA at *
  simp only [Bool.not_eq_true'] at *
  exact O.tr a b c h1 h2
theorem leA_total (a b : D) : (leA a b || leA b a) = true := by
  have O := DA.swo_ky keyA
  unfold leA
  cases q : DA.ltK (keyA b) (keyA a) with
  | false => rfl
  | true => rw [O.asym _ _ q]; rfl
theorem leA_anti {a b : D} (ha : (aD a).isSome = true) (hb : (aD b).isSome = true) (h1 : leA a b = true) (h2 : leA b a = true) : a = b := by
  obtain ⟨⟨w, ns⟩, ea⟩ := Option.isSome_iff_exists.mp ha
  obtain ⟨⟨v, ms⟩, eb⟩ := Option.isSome_iff_exists.mp hb
  unfold leA at h1 h2
  simp only [Bool.not_eq_true'] at h1 h2
  have e := PyProof.Rows.lex_total (O := PyProof.Rows.itemOrd) _ _ h2 h1
  simp only [keyA, ea, eb] at e
  obtain ⟨e1, e2⟩ := keyV_inj e
  rw [aD_some ea, aD_some eb, e1, e2]
theorem sortA_is {ds ds' : List D} (h : ∀ d ∈ ds, (aD d).isSome = true) (p : ds'.Perm ds) (q : ds'.Pairwise fun a b => leA a b = true) : ds' = sortA ds :=
  List.Perm.eq_of_pairwise (fun a b ha hb h1 h2 => leA_anti (h a (p.mem_iff.mp ha)) (h b ((sortA_perm ds).mem_iff.mp hb)) h1 h2) q (List.pairwise_mergeSort leA_trans leA_total ds) (p.trans (sortA_perm ds).symm)
theorem sortA_eq {ds ds' : List D} (h : ∀ d ∈ ds, (aD d).isSome = true) (p : ds'.Perm ds) : sortA ds' = sortA ds :=
  sortA_is h ((sortA_perm ds').trans p) (List.pairwise_mergeSort leA_trans leA_total ds')
def bSortA : List D → DH → Res D
  | [.ref n], h => match h[n]? with
    | some (.lst ds) => if ds.all (fun d => (aD d).isSome) = true then .ok (.ref h.length) (h ++ [.lst (sortA ds)]) else .bad
    | _ => .bad
  | _, _ => .bad
theorem bSortA_lst {h : DH} {n : Nat} {ds : List D} (e : h[n]? = some (.lst ds)) (a : ∀ d ∈ ds, (aD d).isSome = true) : bSortA [.ref n] h = .ok (.ref h.length) (h ++ [.lst (sortA ds)]) := by
  simp only [bSortA, e, if_pos (List.all_eq_true.mpr a)]
theorem act_rep {K : PySem.W.Frag} {ρ : List Addr} {H : Hp} {d : D} {v : V} {w : Str} {ns : List Int} (r : Rep K ρ H d v) (e : aD d = some (w, ns)) : ∃ t, v = .ref t ∧ SqT K H t (V.str w :: ns.map V.int) := by
  have ed := aD_some e
  subst ed
  cases r with
  | tup t rl =>
    cases rl with
    | cons h1 h2 =>
      cases h1
      have q := intsD_rep h2 (intsD_map ns)
      subst q
      exact ⟨_, rfl, t.sq⟩
theorem acts_rep {K : PySem.W.Frag} {ρ : List Addr} {H : Hp} : ∀ {ds : List D} {xs : List V}, RepL K ρ H ds xs → (∀ d ∈ ds, (aD d).isSome = true) → ∃ ts : List Addr, xs = ts.map V.ref
  | _, _, .nil, _ => ⟨[], rfl⟩
  | _, _, .cons h r, a => by
    obtain ⟨ts, rfl⟩ := acts_rep r fun d hd => a d (List.mem_cons_of_mem _ hd)
    obtain ⟨⟨w, ns⟩, e⟩ := Option.isSome_iff_exists.mp (a _ List.mem_cons_self)
    obtain ⟨t, rfl, _⟩ := act_rep h e
    exact ⟨t :: ts, rfl⟩
open Classical in
theorem cs_sortA {K : PySem.W.Frag} {mg : Str → Option Value} : CallS K mg (DA.rSortA K) bSortA := by
  intro ρ dh H ds vs Q W τ w rx p
  unfold bSortA at p
  split at p
  · obtain ⟨v, rfl, r⟩ := rx.inv1
    split at p
    · rename_i ls hk
      split at p
      · rename_i hall
        have all := List.all_eq_true.mp hall
        cases r with
        | ref ha =>
          obtain ⟨xs, hx, rl⟩ := cell_lst w hk ha
          obtain ⟨ts, rfl⟩ := acts_rep rl all
          refine ⟨_, ts, rfl, SqL.of hx, fun uq => ?_⟩
          -- the datum at an object
          let g : Addr → D := fun t => if e : ∃ d, (aD d).isSome = true ∧ Rep K ρ H d (.ref t) then Classical.choose e else .non
          have gs : ∀ (t : Addr) (d : D), (aD d).isSome = true → Rep K ρ H d (.ref t) → g t = d := fun t d hd hr => by
            have e : ∃ d, (aD d).isSome = true ∧ Rep K ρ H d (.ref t) := ⟨d, hd, hr⟩
            have eg : g t = Classical.choose e := dif_pos e
            rw [eg]
            obtain ⟨h1, h2⟩ := Classical.choose_spec e
            obtain ⟨⟨w1, n1⟩, e1⟩ := Option.isSome_iff_exists.mp h1
            obtain ⟨⟨w2, n2⟩, e2⟩ := Option.isSome_iff_exists.mp hd
            obtain ⟨t1, q1, s1⟩ := act_rep h2 e1
            obtain ⟨t2, q2, s2⟩ := act_rep hr e2
            cases q1
            cases q2
            have := uq _ _ _ s1 s2
            injection this with a1 a2
            injection a1 with a1
            have a2 : n1 = n2 := by
              have inj : ∀ (l m : List Int), l.map V.int = m.map V.int → l = m := by
                intro l
                induction l with
                | nil => intro m h; cases m with
                  | nil => rfl
                  | cons _ _ => cases h
                | cons x l ih => intro m h; cases m with
                  | nil => cases h
                  | cons y m =>
                    rw [List.map_cons, List.map_cons] at h
                    injection h with h1 h2
                    injection h1 with h1
                    rw [h1, ih _ h2]
              exact inj _ _ a2
            rw [aD_some e1, aD_some e2, a1, a2]
          have pw : ∀ (ls : List D) (ts : List Addr), RepL K ρ H ls (ts.map V.ref) → (∀ d ∈ ls, (aD d).isSome = true) → ls = ts.map g ∧ ∀ t ∈ ts, Rep K ρ H (g t) (.ref t) ∧ (aD (g t)).isSome = true := by
            intro ls
            induction ls with
            | nil =>
              intro ts r _
              cases ts with
              | nil => exact ⟨rfl, fun t ht => by cases ht⟩
              | cons t ts => cases r
            | cons d ls ih =>
              intro ts r a
              cases ts with
              | nil => cases r
              | cons t ts =>
                rw [List.map_cons] at r
                cases r with
                | cons h1 h2 =>
                  have hd := a d List.mem_cons_self
                  have e := gs t d hd h1
                  obtain ⟨i1, i2⟩ := ih ts h2 fun d hd => a d (List.mem_cons_of_mem _ hd)
                  refine ⟨by rw [List.map_cons, e, ← i1], fun u hu => ?_⟩
                  rcases List.mem_cons.mp hu with rfl | hu
                  · rw [e]; exact ⟨h1, hd⟩
                  · exact i2 u hu
          obtain ⟨el, er⟩ := pw ls ts rl all
          refine ⟨fun t => keyA (g t), fun t ht => ?_, fun ts' q hp hs hq => ?_⟩
          · obtain ⟨h1, h2⟩ := er t ht
            obtain ⟨⟨w1, n1⟩, e1⟩ := Option.isSome_iff_exists.mp h2
            obtain ⟨t1, q1, s1⟩ := act_rep h1 e1
            cases q1
            exact ⟨w1, n1, s1, by simp only [keyA, e1]⟩
          · have so : ts'.map g = sortA ls := by
              refine sortA_is all (by rw [el]; exact hp.map g) (List.pairwise_map.mpr (hs.imp fun {a b} h => ?_))
              show leA (g a) (g b) = true
              unfold leA
              rw [h]
              rfl
            have rr : ∀ ts' : List Addr, (∀ t ∈ ts', t ∈ ts) → RepL K ρ H (ts'.map g) (ts'.map V.ref) := by
              intro ts'
              induction ts' with
              | nil => intro _; exact .nil
              | cons t r ih => intro h; exact .cons (er t (h t List.mem_cons_self)).1 (ih fun u hu => h u (List.mem_cons_of_mem _ hu))
            have rl' := rr ts' fun t ht => hp.mem_iff.mp ht
            rw [so] at rl'
            exact new_lst w rl' p q hq
      · exact p.elim
    · exact p.elim
  · exact p.elim
end DL

/-! The data layer: sorted(a list of alike data: tuples of ints, texts, tuples). -/
namespace DP
open PySem PySem.Spec L2
open PyProof.Rows hiding St
open PySem.W (alike AllAlike Sortable dataLe EachIs)
def leP {α : Type} (p q : α × PyData) : Bool := dataLe false (fun x : α × PyData => x.2) p q
def rSortP (K : PySem.W.Frag) : List V → Hp → VK → Prop := fun vs H Q => ∃ (a : Addr) (xs : List (V × PyData)), vs = [V.ref a] ∧ SqL K H a (xs.map (·.1)) ∧ (∀ p ∈ xs, Dp K H p.1 p.2) ∧ AllAlike (xs.map (·.2)) ∧ Sortable (xs.map (·.2)) ∧ (∀ p ∈ xs, p.2.depth ≤ 40) ∧
  ∀ q, H q = none → Q (.ref q) (upd H q (.lst ((xs.mergeSort (dataLe false fun x : V × PyData => x.2)).map (·.1))))
theorem each_of {xs : List (V × PyData)} : ∀ {us : List Value}, Vals (xs.map (·.1)) us → EachIs (fun u (p : V × PyData) => L2.RelV p.1 u) us xs := by
  induction xs with
  | nil => intro us r; cases r; exact .nil
  | cons p xs ih =>
    intro us r
    rw [List.map_cons] at r
    cases r with
    | cons h t => exact .cons h (ih t)
theorem of_each : ∀ {us : List Value} {xs : List (V × PyData)}, EachIs (fun u (p : V × PyData) => L2.RelV p.1 u) us xs → Vals (xs.map (·.1)) us
  | _, _, .nil => .nil
  | _, _, .cons h t => .cons h (of_each t)
theorem each_read {X : Cx} {pins : List (Addr × Obj)} {σ : L2.St} {H : Hp} {s : Shared} (I : Inv X pins σ H s) : ∀ {us : List Value} {xs : List (V × PyData)}, EachIs (fun u (p : V × PyData) => L2.RelV p.1 u) us xs → (∀ p ∈ xs, Dp X.K H p.1 p.2) → EachIs (fun u (p : V × PyData) => ∃ as, Reads s.heap u p.2 as) us xs
  | _, _, .nil, _ => .nil
  | _, _, .cons h t, d => .cons (Dp.reads I _ _ _ (d _ List.mem_cons_self) h) (each_read I t fun p hp => d p (List.mem_cons_of_mem _ hp))
theorem cr_sortP {X : Cx} (hu : X.A.units + 64 < cLine) : CallR X (.builtin "sorted") (rSortP X.K) := by
  intro pins s σ H vs us Q I r h
  obtain ⟨a, xs, rfl, hs, hd, hal, hk, dp, q⟩ := h
  rw [Vals.ref1 r]
  obtain ⟨its, rv, hl, hz⟩ := I.list hs
  have e1 := each_of rv
  rw [List.length_map] at hz
  refine PySem.W.sorted_data hl.isList e1 (each_read I e1 hd) hal hk hz (fun b hb => by have := dp b hb; omega) fun out hlen ho => ?_
  obtain ⟨ep, he'⟩ := PyProof.Rows.sortedAll_at s.heap its (List.toArray out)
  have rvo := of_each ho
  have ln : ((xs.mergeSort (dataLe false fun x : V × PyData => x.2)).map (·.1)).length ≤ sizeLine := by
    rw [List.length_map, List.length_mergeSort]
    exact hz
  exact ⟨.ref _, upd H (s.heap.objs.size + 1) (.lst ((xs.mergeSort (dataLe false fun x : V × PyData => x.2)).map (·.1))), I.laid (t' := s.toks) (fun _ _ => PyProof.Rows.sortedAll_old) (Nat.le_succ _) ⟨ln, out, ep, rvo, he'⟩, rfl, q _ (I.hok.fresh (Nat.le_succ _))⟩
end DP
namespace DL
open PySem PySem.Spec L2
open PyProof.Rows hiding St
open PySem.W (alike AllAlike Sortable dataLe)
/-- sorted as Python does: by the data -/
def sortP (ds : List D) : List D := ds.mergeSort (dataLe false py)
theorem sortP_perm (ds : List D) : (sortP ds).Perm ds := List.mergeSort_perm ..
open Classical in
/-- sorted(a list of tuples that are alike) -/
noncomputable def bSortP : List D → DH → Res D
  | [.ref n], h => match h[n]? with
    | some (.lst ds) => if plainsD 20 ds = true ∧ AllAlike (ds.map py) ∧ Sortable (ds.map py) ∧ (∀ d ∈ ds, (py d).depth ≤ 40) then .ok (.ref h.length) (h ++ [.lst (sortP ds)]) else .bad
    | _ => .bad
  | _, _ => .bad
theorem bSortP_lst {h : DH} {n : Nat} {ds : List D} (e : h[n]? = some (.lst ds)) (a : plainsD 20 ds = true) (b : AllAlike (ds.map py)) (c : Sortable (ds.map py)) (d : ∀ d ∈ ds, (py d).depth ≤ 40) : bSortP [.ref n] h = .ok (.ref h.length) (h ++ [.lst (sortP ds)]) := by
  simp only [bSortP, e]
  exact if_pos ⟨a, b, c, d⟩
theorem pairs_rep {K : PySem.W.Frag} {mg : Str → Option Value} {ρ : List Addr} {H : Hp} {dh : DH} (w : Wd K mg ρ dh H) : ∀ {ds : List D} {xs : List V}, RepL K ρ H ds xs → plainsD 20 ds = true →
    ∃ zs : List (D × V), zs.map (·.1) = ds ∧ zs.map (·.2) = xs ∧ ∀ p ∈ zs, Rep K ρ H p.1 p.2 ∧ Dp K H p.2 (py p.1)
  | _, _, .nil, _ => ⟨[], rfl, rfl, fun _ h => by cases h⟩
  | d :: ds, v :: vs, .cons h r, p => by
    rw [plainsD, Bool.and_eq_true] at p
    obtain ⟨zs, e1, e2, hz⟩ := pairs_rep w r p.2
    refine ⟨(d, v) :: zs, by rw [List.map_cons, e1], by rw [List.map_cons, e2], fun q hq => ?_⟩
    rcases List.mem_cons.mp hq with rfl | hq
    · exact ⟨h, toP_dp w 21 h (toP_py dh 20 21 d p.1 (by decide))⟩
    · exact hz q hq
theorem rep_of {K : PySem.W.Frag} {ρ : List Addr} {H : Hp} : ∀ {zs : List (D × V)}, (∀ p ∈ zs, Rep K ρ H p.1 p.2) → RepL K ρ H (zs.map (·.1)) (zs.map (·.2))
  | [], _ => .nil
  | p :: zs, h => .cons (h p List.mem_cons_self) (rep_of fun q hq => h q (List.mem_cons_of_mem _ hq))
theorem cs_sortP {K : PySem.W.Frag} {mg : Str → Option Value} : CallS K mg (DP.rSortP K) bSortP := by
  intro ρ dh H ds vs Q W τ w rx p
  unfold bSortP at p
  split at p
  · obtain ⟨v, rfl, r⟩ := rx.inv1
    split at p
    · rename_i ls hk
      split at p
      · rename_i hall
        obtain ⟨h1, h2, h3, h4⟩ := hall
        cases r with
        | ref ha =>
          obtain ⟨xs, hx, rl⟩ := cell_lst w hk ha
          obtain ⟨zs, e1, e2, hz⟩ := pairs_rep w rl h1
          have m2 : (zs.map fun p : D × V => (p.2, py p.1)).map (·.2) = ls.map py := by rw [← e1, List.map_map, List.map_map]; rfl
          have m1 : (zs.map fun p : D × V => (p.2, py p.1)).map (·.1) = xs := by rw [← e2, List.map_map]; rfl
          refine ⟨_, zs.map fun p => (p.2, py p.1), rfl, by rw [m1]; exact SqL.of hx, fun q hq => ?_, by rw [m2]; exact h2, by rw [m2]; exact h3, fun q hq => ?_, ?_⟩
          · obtain ⟨p, hp, rfl⟩ := List.mem_map.mp hq
            exact (hz p hp).2
          · obtain ⟨p, hp, rfl⟩ := List.mem_map.mp hq
            exact h4 _ (by rw [← e1]; exact List.mem_map_of_mem hp)
          · have s1 : ((zs.map fun p : D × V => (p.2, py p.1)).mergeSort (dataLe false fun x : V × PyData => x.2)) = (zs.mergeSort (dataLe false fun p : D × V => py p.1)).map fun p => (p.2, py p.1) :=
              (List.map_mergeSort (f := fun p : D × V => (p.2, py p.1)) (r := dataLe false fun p : D × V => py p.1) (s := dataLe false fun x : V × PyData => x.2) (fun a _ b _ => rfl)).symm
            have s2 : sortP ls = (zs.mergeSort (dataLe false fun p : D × V => py p.1)).map (·.1) := by
              unfold sortP
              rw [← e1]
              exact (List.map_mergeSort (f := fun p : D × V => p.1) (r := dataLe false fun p : D × V => py p.1) (s := dataLe false py) (fun a _ b _ => rfl)).symm
            rw [s1, List.map_map]
            rw [s2] at p
            have rr := rep_of (K := K) (ρ := ρ) (H := H) (zs := zs.mergeSort (dataLe false fun p : D × V => py p.1)) fun q hq => (hz q ((List.mergeSort_perm ..).mem_iff.mp hq)).1
            exact new_lst w rr p
      · exact p.elim
    · exact p.elim
  · exact p.elim
end DL

/-! The data layer: isinstance(x, C) with both answers, x == y by an own __eq__ of x, y anything; C an own class. -/
namespace DL
open PySem PySem.Spec L2
open PyProof.Rows hiding St
/-- is x an instance of c (no class above is asked about) -/
def isTy (c : Str) (x : D) (h : DH) : Option Bool := match tyD h x with
  | some (.own c') => if c' = c then some true else none
  | some _ => some false
  | none => none
/-- what is asked of an own class C that takes no built-in value -/
structure InsZ (K : PySem.W.Frag) (C : Addr) : Prop where
  i : C8.InsC K C
  z : PySem.W.kitOne K (.type "NoneType") (.ref C) = some false
theorem InsZ.sub {K : PySem.W.Frag} {C : Addr} (T : TN) (hT : ∀ c, T ≠ .own c) : PySem.W.subIn K (.type T.s) (.ref C) = some false := by
  have nc : ∀ l : List String, (l.map Value.type).contains (.ref C) = false := by
    intro l
    induction l with
    | nil => rfl
    | cons a l ih =>
      rw [List.map_cons, List.contains_cons, ih]
      simp
  have e : ∀ (s : String) (l : List String), PySem.fastBuiltinMro s = some (l.map Value.type) → PySem.W.subIn K (.type s) (.ref C) = some false := fun s l e => by
    show (PySem.fastBuiltinMro s).map (·.contains (.ref C)) = _
    rw [e, Option.map_some, nc]
  cases T with
  | own c => exact absurd rfl (hT c)
  | non => exact e "NoneType" ["NoneType", "object"] (by decide +kernel)
  | bl => exact e "bool" ["bool", "int", "object"] (by decide +kernel)
  | int => exact e "int" ["int", "object"] (by decide +kernel)
  | str => exact e "str" ["str", "object"] (by decide +kernel)
  | tup => exact e "tuple" ["tuple", "object"] (by decide +kernel)
  | lst => exact e "list" ["list", "object"] (by decide +kernel)
  | dic => exact e "dict" ["dict", "object"] (by decide +kernel)
theorem InsZ.kit {K : PySem.W.Frag} {C : Addr} (c : InsZ K C) (T : TN) (hT : ∀ c, T ≠ .own c) : PySem.W.kitOne K (.type T.s) (.ref C) = some false := by
  have z := c.z
  have s := InsZ.sub (K := K) (C := C) T hT
  have n : ∀ s : String, (Value.type s == Value.ref C) = false := fun s => by simp
  unfold PySem.W.kitOne at z ⊢
  rw [n] at z ⊢
  simp only [Bool.false_eq_true, if_false] at z ⊢
  unfold PySem.W.kitCls at z ⊢
  simp only at z ⊢
  split at z
  · rename_i q
    rw [if_pos q]
    exact s
  · cases z
/-- the types of a value that isTy knows -/
theorem isTy_rep {K : PySem.W.Frag} {mg : Str → Option Value} {ρ : List Addr} {H : Hp} {dh : DH} {x : D} {v : V} {C : Addr} {c : Str} {b : Bool} (w : Wd K mg ρ dh H) (r : Rep K ρ H x v) (gC : mg c = some (.ref C)) (e : isTy c x dh = some b) :
    (b = true ∧ ∃ a dx fs, v = .ref a ∧ H a = some (.ins C dx fs)) ∨ (b = false ∧ ∃ T : TN, (∀ c, T ≠ .own c) ∧ TyX K H v (.type T.s)) := by
  unfold isTy at e
  split at e
  · rename_i c' ht
    split at e
    · rename_i hc
      subst hc
      cases e
      refine .inl ⟨rfl, isIns_rep w r gC ?_⟩
      cases x with
      | ref n =>
        simp only [tyD] at ht
        split at ht
        · cases ht
        · cases ht
        · cases ht
        · rename_i c2 fs hk
          cases ht
          simp only [isIns, hk, beq_self_eq_true]
        · cases ht
      | _ => cases ht
    · cases e
  · rename_i t hn ht
    cases e
    exact .inr ⟨rfl, t, hn, tyX_of w r ht hn⟩
  · cases e
theorem isTy_ins {c : Str} {h : DH} {n : Nat} {fs : List (Str × D)} (e : h[n]? = some (.obj c fs)) : isTy c (.ref n) h = some true := by simp [isTy, tyD, e]
def dIsZ (c : Str) (f : FE) : FE := fun σ h => (f σ h).bind fun x h1 => match isTy c x h1 with
  | some b => .ok (.bl b) h1
  | none => .bad
@[simp] theorem dIsZ_ap {c : Str} {f : FE} {σ : DE} {h : DH} : dIsZ c f σ h = (f σ h).bind fun x h1 => match isTy c x h1 with
  | some b => .ok (.bl b) h1
  | none => .bad := (rfl)
theorem de_isZ {X : Cx} {W : WX} {e : Expr} {f : FE} {c : Str} {p p2 pos : Pos} (hi : ∃ C, X.mg c = some (.ref C) ∧ InsZ X.K C) (hm : X.mg "isinstance" = none) (he : PE X e (rE X.K X.mg W f)) (hg : Gl X "isinstance" := by rfl) (hg2 : Gl X c := by rfl) (hd : (c == ("__debug__" : Str)) = false := by decide)
    (hs : starEach (e :: [.Name c p2]) X.env = (false, eval e X.env) :: starEach [.Name c p2] X.env := by rfl) (hs2 : starEach [.Name c p2] X.env = (false, eval (.Name c p2) X.env) :: starEach [] X.env := by rfl) (hpl : (backTo pos (starEach [.Name c p2] X.env)).any (·.1) = false := by rfl) :
    PE X (.Call (.Name "isinstance" p) [e, .Name c p2] [] pos) (rE X.K X.mg W (dIsZ c f)) := by
  obtain ⟨C, gC, ic⟩ := hi
  refine PE.weak (pe_callB call_isi hg hm (by decide +kernel) (pa_cons he (pa_cons (pe_glob (v := .ref C) hg2 gC rfl hd) pa_nil hs2) hs) (by decide) (by decide) hs hpl) fun τ H Q h => ?_
  refine rd_one (r := fun v H Q => rIsi X.K [v, .ref C] H Q) (fun ρ dh H x v Q W τ w rx p => ?_) h
  split at p
  · rename_i b e
    rcases isTy_rep w rx gC e with ⟨rfl, a, dx, fs, rfl, hx⟩ | ⟨rfl, T, hT, ty⟩
    · exact ⟨_, _, _, _, true, rfl, .own C, .base (TyOf.ins hx ic.i.cl ic.i.ha ic.i.hn ic.i.htk ic.i.hm), ic.i.me, same_val w (.bl _) p⟩
    · exact ⟨_, _, _, _, false, rfl, .own C, ty, ic.kit T hT, same_val w (.bl _) p⟩
  · exact p.elim
/-! ### x == y by the __eq__ of x -/
def eqZ (c : Str) (F : Fn) (x y : D) (h : DH) : Res D := if isIns c x h = true ∧ (isTy c y h).isSome = true then (match F [x, y] h with
  | .ok (.bl b) h2 => .ok (.bl b) h2
  | _ => .bad) else .bad
def rEqZ (K : PySem.W.Frag) (C : Addr) (sp : Sp) : R2 := fun x y H Q => ∃ a dx fs, x = .ref a ∧ H a = some (.ins C dx fs) ∧ ((∃ b dy gs, y = .ref b ∧ H b = some (.ins C dy gs)) ∨ ∃ T : TN, (∀ c, T ≠ .own c) ∧ TyX K H y (.type T.s)) ∧ sp [x, y] H (fun v H' => (∃ b, v = .bl b) ∧ Q v H') (fun _ _ _ => False)
section
variable {X : Cx} {W : WX} {k j : Nat} {a b : Expr} {fa fb : FE} {c : Str} {ps : List Str} {F : Fn} {pos : Pos}
theorem op_eqZ {C f : Addr} {fd : FuncData} {sp : Sp} (G : FnOk X.prog X.w X.K X.mg X.base (L2.CX X.prog X.w) k f fd ps sp) (M : Meth X.K C "__eq__" f) (hr : Room k X.A) (hb : Binds X.K fd ps []) : OpR X (compareOp .Eq) (rEqZ X.K C sp) := by
  intro pins s σ H x y v u Q I rx ry h
  obtain ⟨a, dx, fs, rfl, ha, hy, hsp⟩ := h
  cases rx
  obtain ⟨mA, J, _⟩ := ins_get I.hok ha
  obtain ⟨od, J, _⟩ := J.look
  obtain ⟨m, hF⟩ := I.fr
  obtain ⟨tb, lk, nf⟩ : ∃ tb, PySem.W.Looks (model X.prog X.w) s.heap (typeOf u) tb ∧ PySem.W.notFirst X.K C tb = true := by
    rcases hy with ⟨b, dy, gs, rfl, hb'⟩ | ⟨T, hT, ty⟩
    · cases ry
      obtain ⟨mB, J', _⟩ := ins_get I.hok hb'
      obtain ⟨od', J', _⟩ := J'.look
      exact ⟨_, J'.type, by simp [PySem.W.notFirst]⟩
    · obtain ⟨P, Z, p, _⟩ := kit_of I ry ty
      exact ⟨_, Z.ty _ _ I.kIn p, by unfold PySem.W.notFirst; rw [InsZ.sub T hT]; simp⟩
  show wpAny (model X.prog X.w) X.A (richCompare .Eq (.ref a) u) (EP X pins σ Q) X.xe s
  refine PySem.W.cmp_K (op := .Eq) hr.units0 hF I.ok.mod.kin J lk nf M.at_ M.fn ?_
  refine wpAny_mono (run_fnS (us := [.ref a, u]) (vs := [.ref a, y]) (E := fun _ _ _ _ => False) G hr hb (fun pins H s e s' I c => ?_) I (.cons rfl (.cons ry .nil)) hsp) (fun v s' q => ?_) (fun _ _ e => e)
  · obtain ⟨_, _, _, _, _, _, _, _, _, _, _, _, hE⟩ := c
    exact hE.elim
  · obtain ⟨z, H', I', rz, ⟨b, rfl⟩, q⟩ := q
    cases rz
    exact ⟨.bl b, H', I', rfl, q⟩
theorem os_eqZ {K : PySem.W.Frag} {mg : Str → Option Value} {C : Addr} (gC : mg c = some (.ref C)) : OpS K mg (rEqZ K C (spD K mg F)) (eqZ c F) := by
  intro ρ dh H x y v u Q W τ w rx ry p
  unfold eqZ at p
  split at p
  · rename_i hb
    obtain ⟨a, dx, fs, rfl, hx⟩ := isIns_rep w rx gC hb.1
    obtain ⟨bb, eb⟩ := Option.isSome_iff_exists.mp hb.2
    refine ⟨a, dx, fs, rfl, hx, ?_, [x, y], dh, ρ, w, .cons rx (.cons ry .nil), ⟨2, rfl, rfl⟩, ?_⟩
    · rcases isTy_rep w ry gC eb with ⟨rfl, b, dy, gs, rfl, hy⟩ | ⟨rfl, T, hT, ty⟩
      · exact .inl ⟨b, dy, gs, rfl, hy⟩
      · exact .inr ⟨T, hT, ty⟩
    split at p
    · rename_i b h2 e
      rw [e]
      intro ρ' H' z g w' r
      have q := p ρ' H' z g w' r
      cases r
      exact ⟨⟨b, rfl⟩, q⟩
    · exact p.elim
  · exact p.elim
theorem de_eqZ (h : HasM X.prog X.w X.K X.mg X.base k c "__eq__" ps F) (hr : Room j X.A) (hk : k ≤ j) (ha : PE X a (rE X.K X.mg W fa)) (hb : PE X b (rE X.K X.mg W fb)) :
    PE X (.Compare a [.Eq] [b] pos) (rE X.K X.mg W (dBin (eqZ c F) fa fb)) := by
  obtain ⟨C, f, fd, gC, kC, M, G, hbd⟩ := h
  exact de_cmp (op_eqZ G M (hr.mono hk) hbd) (os_eqZ gC) ha hb
theorem eqZ_at {h h2 : DH} {n : Nat} {y : D} {fs : List (Str × D)} {b bb : Bool} (e1 : h[n]? = some (.obj c fs)) (e2 : isTy c y h = some bb) (e : F [.ref n, y] h = .ok (.bl b) h2) : eqZ c F (.ref n) y h = .ok (.bl b) h2 := by
  have i1 : isIns c (.ref n) h = true := by simp [isIns, e1]
  have i2 : (isTy c y h).isSome = true := by rw [e2]; rfl
  simp only [eqZ, i1, i2, and_self, if_true, e]
end
end DL


namespace law_k02
open PySem PySem.Spec L2 DL
open PyProof.Rows hiding St
def topS (i : Nat) : Stmt := PySem.Challenge.pw_spentblocks_k02_whole_shapes_there_and_b.main.body.getD i (.Pass ⟨0, 0, 0, 0⟩)
abbrev s_is_integer : Stmt := topS 10
theorem sc_is_integer : FnScope ["thing"] ["thing"] (defScope s_is_integer) := ⟨rfl, rfl, rfl, by decide +kernel, rfl, by decide +kernel, by decide +kernel⟩
abbrev s_in_range : Stmt := topS 11
theorem sc_in_range : FnScope ["thing", "low", "high"] ["thing", "low", "high"] (defScope s_in_range) := ⟨rfl, rfl, rfl, by decide +kernel, rfl, by decide +kernel, by decide +kernel⟩
abbrev s_is_left : Stmt := topS 12
theorem sc_is_left : FnScope ["thing"] ["thing"] (defScope s_is_left) := ⟨rfl, rfl, rfl, by decide +kernel, rfl, by decide +kernel, by decide +kernel⟩
abbrev s_is_page : Stmt := topS 13
theorem sc_is_page : FnScope ["thing", "keys"] ["thing", "keys"] (defScope s_is_page) := ⟨rfl, rfl, rfl, by decide +kernel, rfl, by decide +kernel, by decide +kernel⟩
abbrev s_are_pages : Stmt := topS 14
theorem sc_are_pages : FnScope ["thing", "keys", "free", "page"] ["thing", "keys"] (defScope s_are_pages) := ⟨rfl, rfl, rfl, by decide +kernel, rfl, by decide +kernel, by decide +kernel⟩
abbrev s_is_block : Stmt := topS 15
theorem sc_is_block : FnScope ["thing", "keys", "left", "pages"] ["thing", "keys"] (defScope s_is_block) := ⟨rfl, rfl, rfl, by decide +kernel, rfl, by decide +kernel, by decide +kernel⟩
abbrev s_are_blocks : Stmt := topS 16
theorem sc_are_blocks : FnScope ["rows", "keys", "met", "row", "page"] ["rows", "keys"] (defScope s_are_blocks) := ⟨rfl, rfl, rfl, by decide +kernel, rfl, by decide +kernel, by decide +kernel⟩
abbrev s_is_asked : Stmt := topS 17
theorem sc_is_asked : FnScope ["thing", "keys"] ["thing", "keys"] (defScope s_is_asked) := ⟨rfl, rfl, rfl, by decide +kernel, rfl, by decide +kernel, by decide +kernel⟩
abbrev s_is_shape : Stmt := topS 18
theorem sc_is_shape : FnScope ["thing", "keys", "rows", "fails", "cuts", "asked"] ["thing"] (defScope s_is_shape) := ⟨rfl, rfl, rfl, by decide +kernel, rfl, by decide +kernel, by decide +kernel⟩
abbrev s_Stand___init__ : Stmt := inClass (topS 22) 0
theorem sc_Stand___init__ : FnScope ["self", "keys", "blocks", "fails", "cuts", "asked"] ["self", "keys", "blocks", "fails", "cuts", "asked"] (defScope s_Stand___init__) := ⟨rfl, rfl, rfl, by decide +kernel, rfl, by decide +kernel, by decide +kernel⟩
abbrev s_Stand___eq__ : Stmt := inClass (topS 22) 1
theorem sc_Stand___eq__ : FnScope ["self", "other"] ["self", "other"] (defScope s_Stand___eq__) := ⟨rfl, rfl, rfl, by decide +kernel, rfl, by decide +kernel, by decide +kernel⟩
abbrev s_Stand_shape : Stmt := inClass (topS 22) 7
theorem sc_Stand_shape : FnScope ["self"] ["self"] (defScope s_Stand_shape) := ⟨rfl, rfl, rfl, by decide +kernel, rfl, by decide +kernel, by decide +kernel⟩
abbrev s_standing : Stmt := topS 23
theorem sc_standing : FnScope ["form", "made"] ["form"] (defScope s_standing) := ⟨rfl, rfl, rfl, by decide +kernel, rfl, by decide +kernel, by decide +kernel⟩
abbrev s_stand_of : Stmt := topS 24
theorem sc_stand_of : FnScope ["shape"] ["shape"] (defScope s_stand_of) := ⟨rfl, rfl, rfl, by decide +kernel, rfl, by decide +kernel, by decide +kernel⟩
abbrev s__law_cell : Stmt := topS 26
theorem sc__law_cell : FnScope ["_law_script", "_law_k", "_law_first"] ["_law_script", "_law_k"] (defScope s__law_cell) := ⟨rfl, rfl, rfl, by decide +kernel, rfl, by decide +kernel, by decide +kernel⟩
abbrev s__law_mixed : Stmt := topS 27
theorem sc__law_mixed : FnScope ["_law_cell_here", "_law_k", "_law_number"] ["_law_cell_here", "_law_k"] (defScope s__law_mixed) := ⟨rfl, rfl, rfl, by decide +kernel, rfl, by decide +kernel, by decide +kernel⟩
abbrev s__law_digits : Stmt := topS 28
theorem sc__law_digits : FnScope ["_law_cell_here", "_law_sizes", "_law_row", "_law_size", "_law_k"] ["_law_cell_here", "_law_sizes"] (defScope s__law_digits) := ⟨rfl, rfl, rfl, by decide +kernel, rfl, by decide +kernel, by decide +kernel⟩
abbrev s__law_same : Stmt := topS 29
theorem sc__law_same : FnScope ["_law_got", "_law_due", "_law_k"] ["_law_got", "_law_due"] (defScope s__law_same) := ⟨rfl, rfl, rfl, by decide +kernel, rfl, by decide +kernel, by decide +kernel⟩
abbrev s__law_left : Stmt := topS 30
theorem sc__law_left : FnScope ["_law_digit"] ["_law_digit"] (defScope s__law_left) := ⟨rfl, rfl, rfl, by decide +kernel, rfl, by decide +kernel, by decide +kernel⟩
abbrev s__law_pages : Stmt := topS 31
theorem sc__law_pages : FnScope ["_law_digits_here", "_law_rest", "_law_pages_here", "_law_written", "_law_row", "_law_k"] ["_law_digits_here", "_law_rest", "_law_pages_here", "_law_written"] (defScope s__law_pages) := ⟨rfl, rfl, rfl, by decide +kernel, rfl, by decide +kernel, by decide +kernel⟩
abbrev s__law_block : Stmt := topS 32
theorem sc__law_block : FnScope ["_law_cell_here", "_law_rest", "_law_pages_here", "_law_digits_here", "_law_left_here", "_law_written"] ["_law_cell_here", "_law_rest", "_law_pages_here"] (defScope s__law_block) := ⟨rfl, rfl, rfl, by decide +kernel, rfl, by decide +kernel, by decide +kernel⟩
abbrev s__law_drawn : Stmt := topS 33
theorem sc__law_drawn : FnScope ["_law_script", "_law_at", "_law_head", "_law_keys", "_law_rest", "_law_rows", "_law_b", "_law_due"] ["_law_script", "_law_at"] (defScope s__law_drawn) := ⟨rfl, rfl, rfl, by decide +kernel, rfl, by decide +kernel, by decide +kernel⟩
abbrev s__law_stand : Stmt := topS 34
theorem sc__law_stand : FnScope ["_law_shape"] ["_law_shape"] (defScope s__law_stand) := ⟨rfl, rfl, rfl, by decide +kernel, rfl, by decide +kernel, by decide +kernel⟩
abbrev s__law_odd : Stmt := topS 35
theorem sc__law_odd : FnScope ["_law_digit", "_law_odds"] ["_law_digit"] (defScope s__law_odd) := ⟨rfl, rfl, rfl, by decide +kernel, rfl, by decide +kernel, by decide +kernel⟩
abbrev s__law_is_int : Stmt := topS 36
theorem sc__law_is_int : FnScope ["_law_thing", "_law_low", "_law_high"] ["_law_thing", "_law_low", "_law_high"] (defScope s__law_is_int) := ⟨rfl, rfl, rfl, by decide +kernel, rfl, by decide +kernel, by decide +kernel⟩
abbrev s__law_page_right : Stmt := topS 37
theorem sc__law_page_right : FnScope ["_law_page", "_law_keys"] ["_law_page", "_law_keys"] (defScope s__law_page_right) := ⟨rfl, rfl, rfl, by decide +kernel, rfl, by decide +kernel, by decide +kernel⟩
abbrev s__law_left_right : Stmt := topS 38
theorem sc__law_left_right : FnScope ["_law_left_here", "_law_pages_here"] ["_law_left_here", "_law_pages_here"] (defScope s__law_left_right) := ⟨rfl, rfl, rfl, by decide +kernel, rfl, by decide +kernel, by decide +kernel⟩
abbrev s__law_block_right : Stmt := topS 39
theorem sc__law_block_right : FnScope ["_law_block_here", "_law_keys", "_law_left_here", "_law_pages_here", "_law_p"] ["_law_block_here", "_law_keys"] (defScope s__law_block_right) := ⟨rfl, rfl, rfl, by decide +kernel, rfl, by decide +kernel, by decide +kernel⟩
abbrev s__law_blocks_right : Stmt := topS 40
theorem sc__law_blocks_right : FnScope ["_law_rows", "_law_keys", "_law_met", "_law_block_here", "_law_page"] ["_law_rows", "_law_keys"] (defScope s__law_blocks_right) := ⟨rfl, rfl, rfl, by decide +kernel, rfl, by decide +kernel, by decide +kernel⟩
abbrev s__law_bad_part : Stmt := topS 41
theorem sc__law_bad_part : FnScope ["_law_parts", "_law_keys", "_law_rows", "_law_fails", "_law_cuts", "_law_due"] ["_law_parts"] (defScope s__law_bad_part) := ⟨rfl, rfl, rfl, by decide +kernel, rfl, by decide +kernel, by decide +kernel⟩
abbrev s__law_bent_here : Stmt := topS 42
theorem sc__law_bent_here : FnScope ["_law_thing", "_law_digit"] ["_law_thing", "_law_digit"] (defScope s__law_bent_here) := ⟨rfl, rfl, rfl, by decide +kernel, rfl, by decide +kernel, by decide +kernel⟩
abbrev s__law_bent : Stmt := topS 43
theorem sc__law_bent : FnScope ["_law_thing", "_law_digits_here", "_law_row", "_law_at"] ["_law_thing", "_law_digits_here"] (defScope s__law_bent) := ⟨rfl, rfl, rfl, by decide +kernel, rfl, by decide +kernel, by decide +kernel⟩
abbrev s__law_turned : Stmt := topS 44
theorem sc__law_turned : FnScope ["_law_shape", "_law_cell_here", "_law_digits_here", "_law_rows", "_law_b", "_law_page"] ["_law_shape", "_law_cell_here"] (defScope s__law_turned) := ⟨rfl, rfl, rfl, by decide +kernel, rfl, by decide +kernel, by decide +kernel⟩
abbrev s__law_is_shape : Stmt := topS 45
theorem sc__law_is_shape : FnScope ["_law_thing"] ["_law_thing"] (defScope s__law_is_shape) := ⟨rfl, rfl, rfl, by decide +kernel, rfl, by decide +kernel, by decide +kernel⟩
abbrev s__law_made : Stmt := topS 46
theorem sc__law_made : FnScope ["_law_thing", "_law_told", "e"] ["_law_thing"] (defScope s__law_made) := ⟨rfl, rfl, rfl, by decide +kernel, rfl, by decide +kernel, by decide +kernel⟩
abbrev s_law : Stmt := topS 47
theorem sc_law : FnScope ["_law_script", "_law_head", "_law_shape", "_law_other", "_law_one", "_law_alike", "_law_thing", "_law_path", "_law_bent_here_here", "_law_told"] ["_law_script"] (defScope s_law) := ⟨rfl, rfl, rfl, by decide +kernel, rfl, by decide +kernel, by decide +kernel⟩
abbrev s_NoStand : Stmt := inClass (topS 3) 0
theorem sc_NoStand : FnScope ["self", "part"] ["self", "part"] (defScope s_NoStand) := ⟨rfl, rfl, rfl, by decide +kernel, rfl, by decide +kernel, by decide +kernel⟩
/-- what the top has left: built-ins that are built-ins still, constants -/
structure Txt (K : PySem.W.Frag) (mg : Str → Option Value) : Prop where
  n_bool : mg "bool" = none
  n_int : mg "int" = none
  n_isinstance : mg "isinstance" = none
  n_len : mg "len" = none
  n_list : mg "list" = none
  n_range : mg "range" = none
  n_set : mg "set" = none
  n_sorted : mg "sorted" = none
  n_str : mg "str" = none
  n_tuple : mg "tuple" = none
  c_MOST_COUNT : ∃ t, mg "MOST_COUNT" = some (.int 9 t)
  c_MOST_LEFT : ∃ t, mg "MOST_LEFT" = some (.int 99 t)
  c_MOST_PAGES : ∃ t, mg "MOST_PAGES" = some (.int 6 t)
  h_NoStand : ∃ D, mg "NoStand" = some (.ref D)
  m_NoStand_NoStand : ExmIs K mg "NoStand" "NoStand" true
  xf_NoStand_part : XfIs K mg "NoStand" "part"
  bi_SpentError : BaseIs K mg "SpentError"
  io_Stand : ∃ C, mg "Stand" = some (.ref C) ∧ InsZ K C
  o_Stand : ClsOk K mg "Stand"
  n_Stand_form : NoA K mg "Stand" "form"
structure All (K : PySem.W.Frag) (mg : Str → Option Value) : Prop where
  T : Txt K mg
  e_is_integer : Here K mg "is_integer" s_is_integer ["thing"]
  e_in_range : Here K mg "in_range" s_in_range ["thing", "low", "high"]
  e_is_left : Here K mg "is_left" s_is_left ["thing"]
  e_is_page : Here K mg "is_page" s_is_page ["thing", "keys"]
  e_are_pages : Here K mg "are_pages" s_are_pages ["thing", "keys"]
  e_is_block : Here K mg "is_block" s_is_block ["thing", "keys"]
  e_are_blocks : Here K mg "are_blocks" s_are_blocks ["rows", "keys"]
  e_is_asked : Here K mg "is_asked" s_is_asked ["thing", "keys"]
  e_is_shape : Here K mg "is_shape" s_is_shape ["thing"]
  e_Stand___init__ : HereIK K mg "Stand" "Stand.__init__" s_Stand___init__ ["self", "keys", "blocks", "fails", "cuts", "asked"] "asked" D.non
  e_Stand___eq__ : HereM K mg "Stand" "__eq__" "Stand.__eq__" s_Stand___eq__ ["self", "other"]
  e_Stand_shape : HereM K mg "Stand" "shape" "Stand.shape" s_Stand_shape ["self"]
  e_standing : Here K mg "standing" s_standing ["form"]
  e_stand_of : Here K mg "stand_of" s_stand_of ["shape"]
  e__law_cell : Here K mg "_law_cell" s__law_cell ["_law_script", "_law_k"]
  e__law_mixed : Here K mg "_law_mixed" s__law_mixed ["_law_cell_here", "_law_k"]
  e__law_digits : Here K mg "_law_digits" s__law_digits ["_law_cell_here", "_law_sizes"]
  e__law_same : Here K mg "_law_same" s__law_same ["_law_got", "_law_due"]
  e__law_left : Here K mg "_law_left" s__law_left ["_law_digit"]
  e__law_pages : Here K mg "_law_pages" s__law_pages ["_law_digits_here", "_law_rest", "_law_pages_here", "_law_written"]
  e__law_block : Here K mg "_law_block" s__law_block ["_law_cell_here", "_law_rest", "_law_pages_here"]
  e__law_drawn : Here K mg "_law_drawn" s__law_drawn ["_law_script", "_law_at"]
  e__law_stand : Here K mg "_law_stand" s__law_stand ["_law_shape"]
  e__law_odd : Here K mg "_law_odd" s__law_odd ["_law_digit"]
  e__law_is_int : Here K mg "_law_is_int" s__law_is_int ["_law_thing", "_law_low", "_law_high"]
  e__law_page_right : Here K mg "_law_page_right" s__law_page_right ["_law_page", "_law_keys"]
  e__law_left_right : Here K mg "_law_left_right" s__law_left_right ["_law_left_here", "_law_pages_here"]
  e__law_block_right : Here K mg "_law_block_right" s__law_block_right ["_law_block_here", "_law_keys"]
  e__law_blocks_right : Here K mg "_law_blocks_right" s__law_blocks_right ["_law_rows", "_law_keys"]
  e__law_bad_part : Here K mg "_law_bad_part" s__law_bad_part ["_law_parts"]
  e__law_bent_here : Here K mg "_law_bent_here" s__law_bent_here ["_law_thing", "_law_digit"]
  e__law_bent : Here K mg "_law_bent" s__law_bent ["_law_thing", "_law_digits_here"]
  e__law_turned : Here K mg "_law_turned" s__law_turned ["_law_shape", "_law_cell_here"]
  e__law_is_shape : Here K mg "_law_is_shape" s__law_is_shape ["_law_thing"]
  e__law_made : Here K mg "_law_made" s__law_made ["_law_thing"]
  e_law : Here K mg "law" s_law ["_law_script"]
  ei_NoStand : HereX K mg "NoStand" "part" "NoStand.__init__" s_NoStand ["self", "part"]
def Byt (v : List Int) : Prop := ∀ b ∈ v, 0 ≤ b ∧ b ≤ 255
def isI : D → Bool
  | .int _ => true
  | _ => false
def numB (lo hi : Int) : D → Bool
  | .int b => decide (lo ≤ b) && decide (b ≤ hi)
  | _ => false
def byB (m : Nat) : D → Bool
  | .tup l => decide (l.length ≤ m) && l.all (numB 0 255)
  | _ => false
/-- a value that isinstance can be asked about -/
def OkD (h : DH) : D → Prop
  | .ref n => (∃ l, h[n]? = some (.lst l)) ∨ ∃ l, h[n]? = some (.dic l)
  | .exn0 .. => False
  | .exn1 .. => False
  | .rol _ => False
  | _ => True
def OkT (h : DH) (x : D) : Prop := OkD h x ∧ ∀ l, x = .tup l → l.length ≤ 100 ∧ ∀ d ∈ l, OkD h d
theorem OkD.ext {h g : DH} {x : D} (o : OkD h x) : OkD (h ++ g) x := by
  cases x with
  | ref n =>
    rcases o with ⟨l, e⟩ | ⟨l, e⟩
    · exact .inl ⟨l, at_old e⟩
    · exact .inr ⟨l, at_old e⟩
  | _ => exact o
theorem OkT.ext {h g : DH} {x : D} (o : OkT h x) : OkT (h ++ g) x := ⟨o.1.ext, fun l e => ⟨(o.2 l e).1, fun d hd => ((o.2 l e).2 d hd).ext⟩⟩
theorem OkD.ty {h : DH} {n : Nat} (o : OkD h (.ref n)) : tyD h (.ref n) = some .lst ∨ tyD h (.ref n) = some .dic := by
  rcases o with ⟨l, e⟩ | ⟨l, e⟩
  · exact .inl (by simp only [tyD, e])
  · exact .inr (by simp only [tyD, e])
theorem numB_int {lo hi : Int} {x : D} (e : numB lo hi x = true) : ∃ b, x = .int b ∧ lo ≤ b ∧ b ≤ hi := by
  cases x with
  | int b => exact ⟨b, rfl, by simpa [numB] using e⟩
  | _ => cases e
theorem byB_tup {m : Nat} {x : D} (e : byB m x = true) : ∃ v : List Int, x = .tup (v.map D.int) ∧ Byt v ∧ v.length ≤ m := by
  cases x with
  | tup l =>
    simp only [byB, Bool.and_eq_true, decide_eq_true_eq, List.all_eq_true] at e
    have key : ∀ l : List D, (∀ d ∈ l, numB 0 255 d = true) → ∃ v : List Int, l = v.map D.int ∧ Byt v := by
      intro l
      induction l with
      | nil => intro _; exact ⟨[], rfl, fun _ h => by cases h⟩
      | cons d l ih =>
        intro h
        obtain ⟨v, rfl, hv⟩ := ih fun d hd => h d (List.mem_cons_of_mem _ hd)
        obtain ⟨b, rfl, hb⟩ := numB_int (h d (List.mem_cons_self ..))
        exact ⟨b :: v, rfl, fun c hc => by
          rcases List.mem_cons.mp hc with rfl | hc
          · exact hb
          · exact hv c hc⟩
    obtain ⟨v, rfl, hv⟩ := key l e.2
    exact ⟨v, rfl, hv, by simpa using e.1⟩
  | _ => cases e
theorem byB_of {m : Nat} {v : List Int} (hv : Byt v) (hl : v.length ≤ m) : byB m (.tup (v.map D.int)) = true := by
  simp only [byB, Bool.and_eq_true, decide_eq_true_eq, List.all_eq_true, List.length_map]
  exact ⟨hl, fun d hd => by
    obtain ⟨b, hb, rfl⟩ := List.mem_map.mp hd
    have := hv b hb
    simp [numB, this]⟩
theorem okT_ints {h : DH} {v : List Int} (hl : v.length ≤ 100) : OkT h (.tup (v.map D.int)) :=
  ⟨trivial, fun l e => by cases e; exact ⟨by rw [List.length_map]; omega, fun d hd => by obtain ⟨b, _, rfl⟩ := List.mem_map.mp hd; trivial⟩⟩
theorem OkD.swap {h g : DH} {c c' : List D} {d : D} (o : OkD (h ++ .lst c :: g) d) : OkD (h ++ .lst c' :: g) d := by
  have key : ∀ n, n ≠ h.length → (h ++ Cell.lst c :: g)[n]? = (h ++ Cell.lst c' :: g)[n]? := fun n z => by
    by_cases y : n < h.length
    · rw [List.getElem?_append_left y, List.getElem?_append_left y]
    · rw [List.getElem?_append_right (by omega), List.getElem?_append_right (by omega)]
      obtain ⟨q, hq⟩ : ∃ q, n - h.length = q + 1 := ⟨n - h.length - 1, by omega⟩
      rw [hq]; rfl
  cases d with
  | ref n =>
    by_cases z : n = h.length
    · subst z
      exact .inl ⟨_, hp_0⟩
    · rcases o with ⟨l, e⟩ | ⟨l, e⟩
      · exact .inl ⟨l, by rw [← key n z]; exact e⟩
      · exact .inr ⟨l, by rw [← key n z]; exact e⟩
  | _ => exact o
theorem OkT.swap {h g : DH} {c c' : List D} {x : D} (o : OkT (h ++ .lst c :: g) x) : OkT (h ++ .lst c' :: g) x := ⟨o.1.swap, fun l e => ⟨(o.2 l e).1, fun d hd => ((o.2 l e).2 d hd).swap⟩⟩
theorem okT_list {h g : DH} {l : List D} (hl : l.length ≤ 100) (ho : ∀ d ∈ l, OkD h d) : OkT (h ++ g) (.tup l) :=
  ⟨trivial, fun l' e => by cases e; exact ⟨hl, fun d hd => (ho d hd).ext⟩⟩

theorem OkD.low {h g : DH} {d : D} (o : OkD (h ++ g) d) (l : lowD h.length d = true) : OkD h d := by
  cases d with
  | ref n =>
    have hn : n < h.length := by simpa [lowD] using l
    rcases o with ⟨c, e⟩ | ⟨c, e⟩
    · rw [List.getElem?_append_left hn] at e; exact .inl ⟨c, e⟩
    · rw [List.getElem?_append_left hn] at e; exact .inr ⟨c, e⟩
  | _ => exact o
theorem trim_any {F : Fn} {ds : List D} {h g : DH} {x : D} (e : F ds h = .ok x (h ++ g)) (ok : OkT (h ++ g) x) : ∃ x' g', trimF F ds h = .ok x' (h ++ g') ∧ OkT (h ++ g') x' := by
  unfold trimF
  rw [e]
  show ∃ x' g', trimO h x (h ++ g) (refN x) = _ ∧ _
  cases q : refN x with
  | some k =>
    have := refN_some q
    subst this
    unfold trimO
    simp only
    rw [List.take_left, if_pos (Kept.refl h)]
    by_cases hk : k < h.length
    · rw [if_pos hk]
      exact ⟨.ref k, [], by rw [List.append_nil], by rw [List.append_nil]; exact ⟨ok.1.low (by simp [lowD, hk]), fun l e => by cases e⟩⟩
    · rw [if_neg hk]
      obtain ⟨c, hc, hd⟩ : ∃ c, (h ++ g)[k]? = some c ∧ OkD (h ++ [c]) (.ref h.length) := by
        rcases ok.1 with ⟨l, e⟩ | ⟨l, e⟩
        · exact ⟨_, e, .inl ⟨l, at_new⟩⟩
        · exact ⟨_, e, .inr ⟨l, at_new⟩⟩
      rw [hc]
      simp only
      by_cases lc : lowC h.length c = true
      · rw [if_pos lc]
        exact ⟨_, _, rfl, hd, fun l e => by cases e⟩
      · rw [if_neg lc]
        exact ⟨_, _, rfl, ok⟩
  | none =>
    unfold trimO
    simp only
    rw [List.take_left]
    by_cases lc : Kept h h ∧ lowD h.length x = true
    · rw [if_pos lc]
      refine ⟨x, [], by rw [List.append_nil], ?_⟩
      rw [List.append_nil]
      refine ⟨ok.1.low lc.2, fun l e => ⟨(ok.2 l e).1, fun d hd => ((ok.2 l e).2 d hd).low ?_⟩⟩
      have := lc.2
      rw [e, lowD, lows_all, List.all_eq_true] at this
      exact this d hd
    · rw [if_neg lc]
      exact ⟨_, _, rfl, ok⟩

/-! ### stands, typed -/
inductive Pg where
  | free
  | old
  | key (k : Nat)
  deriving DecidableEq
def Pg.d : Pg → D
  | .free => .str "free"
  | .old => .str "old"
  | .key k => .int (k : Int)
inductive Lf where
  | bad
  | ever
  | num (n : Nat)
  deriving DecidableEq
def Lf.d : Lf → D
  | .bad => .non
  | .ever => .str "ever"
  | .num n => .int (n : Int)
structure Bk where
  left : Lf
  pgs : List Pg
  deriving DecidableEq
def Bk.pd (b : Bk) : D := .tup (b.pgs.map Pg.d)
def Bk.d (b : Bk) : D := .tup [b.left.d, b.pd]
def optD : Option Nat → D
  | none => .non
  | some k => .int (k : Int)
structure Sh where
  keys : Nat
  rows : List Bk
  fails : Nat
  cuts : Nat
  asked : Option Nat
def Sh.rd (s : Sh) : D := .tup (s.rows.map Bk.d)
def Sh.d (s : Sh) : D := .tup [.int (s.keys : Int), s.rd, .int (s.fails : Int), .int (s.cuts : Int), optD s.asked]
theorem optD_none : optD none = .non := rfl
theorem Sh.d_mk (keys : Nat) (rows : List Bk) (fails cuts : Nat) (asked : Option Nat) : (Sh.mk keys rows fails cuts asked).d = .tup [.int (keys : Int), .tup (rows.map Bk.d), .int (fails : Int), .int (cuts : Int), optD asked] := rfl
theorem optD_some (k : Nat) : optD (some k) = .int (k : Int) := rfl
def Pg.isK : Pg → Bool
  | .key _ => true
  | _ => false
theorem Pg.cl (p : Pg) : closed p.d = true := by cases p <;> rfl
theorem Lf.cl (l : Lf) : closed l.d = true := by cases l <;> rfl
theorem Bk.clp (b : Bk) : closed b.pd = true := closeds_map Pg.cl _
theorem Bk.cl (b : Bk) : closed b.d = true := by
  show (closed b.left.d && (closed b.pd && true)) = true
  rw [b.left.cl, b.clp]; rfl
theorem optD_cl (o : Option Nat) : closed (optD o) = true := by cases o <;> rfl
theorem Sh.clr (s : Sh) : closed s.rd = true := closeds_map Bk.cl _
theorem Sh.cl (s : Sh) : closed s.d = true := by
  show (true && (closed s.rd && (true && (true && (closed (optD s.asked) && true))))) = true
  rw [s.clr, optD_cl]; rfl
theorem Pg.flat (p : Pg) : flatD p.d = true := by cases p <;> rfl
theorem pgs_flat (l : List Pg) : (l.map Pg.d).all flatD = true := by
  rw [List.all_map, List.all_eq_true]
  exact fun p _ => p.flat
theorem ne_fo : (Str.ofString "free" : Str) ≠ Str.ofString "old" := by simp
theorem ne_of : (Str.ofString "old" : Str) ≠ Str.ofString "free" := by simp
theorem Pg.d_inj {p q : Pg} (e : p.d = q.d) : p = q := by
  cases p <;> cases q <;> simp only [Pg.d, D.str.injEq, D.int.injEq, reduceCtorEq] at e <;> first | rfl | exact absurd e ne_fo | exact absurd e ne_of | (congr 1; omega)
/-- pages compared -/
theorem Pg.eqF (p q : Pg) : DL.eqF p.d q.d = decide (p = q) := by
  cases p <;> cases q <;> simp only [Pg.d, DL.eqF, reduceCtorEq, decide_false, decide_true, Pg.key.injEq] <;> first | rfl | exact beq_eq_false_iff_ne.mpr ne_fo | exact beq_eq_false_iff_ne.mpr ne_of | (exact beq_self_eq_true _) | skip
  rename_i a b
  by_cases z : a = b <;> simp [z]
  omega
theorem Pg.oEq (p q : Pg) (h : DH) : DL.oEq p.d q.d h = .ok (.bl (decide (p = q))) h := by
  cases p <;> cases q <;> simp [Pg.d] <;> omega
theorem Pg.oNe (p q : Pg) (h : DH) : DL.oNe p.d q.d h = .ok (.bl (!decide (p = q))) h := by
  cases p <;> cases q <;> simp [Pg.d] <;> omega
theorem oEq_free (p : Pg) (h : DH) : DL.oEq p.d (.str "free") h = .ok (.bl (decide (p = .free))) h := p.oEq .free h
theorem oEq_old (p : Pg) (h : DH) : DL.oEq p.d (.str "old") h = .ok (.bl (decide (p = .old))) h := p.oEq .old h
theorem oNe_free (p : Pg) (h : DH) : DL.oNe p.d (.str "free") h = .ok (.bl (!decide (p = .free))) h := p.oNe .free h
theorem oNe_old (p : Pg) (h : DH) : DL.oNe p.d (.str "old") h = .ok (.bl (!decide (p = .old))) h := p.oNe .old h
theorem oEq_key (p : Pg) (k : Nat) (h : DH) : DL.oEq p.d (.int (k : Int)) h = .ok (.bl (decide (p = .key k))) h := p.oEq (.key k) h
theorem Lf.isN (l : Lf) (h : DH) : oIsN l.d .non h = .ok (.bl (decide (l = .bad))) h := by cases l <;> rfl
theorem Lf.notN (l : Lf) (h : DH) : oNotN l.d .non h = .ok (.bl (!decide (l = .bad))) h := by cases l <;> rfl
theorem optD_isN (o : Option Nat) (h : DH) : oIsN (optD o) .non h = .ok (.bl o.isNone) h := by cases o <;> rfl
theorem optD_notN (o : Option Nat) (h : DH) : oNotN (optD o) .non h = .ok (.bl o.isSome) h := by cases o <;> rfl
/-! ### right stands -/
def Pg.lt (keys : Nat) : Pg → Prop
  | .key k => k < keys
  | _ => True
/-- the free ones behind all others -/
def Tail (ps : List Pg) : Prop := ∀ (i j : Nat), i < j → ps[i]? = some .free → ∀ p, ps[j]? = some p → p = .free
structure Bk.ok (keys pages : Nat) (b : Bk) : Prop where
  len : b.pgs.length = pages
  lt : ∀ p ∈ b.pgs, p.lt keys
  tail : Tail b.pgs
  left : ∀ n, b.left = .num n → n ≤ 99
  bad : b.left = .bad → Pg.free ∉ b.pgs
structure Sh.ok (s : Sh) (np : Nat) : Prop where
  keys : 1 ≤ s.keys ∧ s.keys ≤ 9
  many : 1 ≤ s.rows.length ∧ s.rows.length ≤ 9
  pages : 1 ≤ np ∧ np ≤ 6
  rows : ∀ b ∈ s.rows, b.ok s.keys np
  once : ∀ (i j a c : Nat) (b b' : Bk) (k : Nat), s.rows[i]? = some b → s.rows[j]? = some b' → b.pgs[a]? = some (.key k) → b'.pgs[c]? = some (.key k) → i = j ∧ a = c
  fails : s.fails ≤ 9
  cuts : s.cuts ≤ 9
  asked : ∀ k, s.asked = some k → k < s.keys
/-! ### dicts -/
theorem putKD_len (kvs : List (Key × D)) (k : Key) (d : D) : (putKD kvs k d).length ≤ kvs.length + 1 := by
  unfold putKD
  split
  · rw [List.length_map]; omega
  · simp
theorem find_map_eq (kvs : List (Key × D)) (k : Key) (d : D) (hk : kvs.any (fun kv => decide (kv.1 = k)) = true) : getK (kvs.map fun kv => if kv.1 = k then (kv.1, d) else kv) k = some d := by
  induction kvs with
  | nil => simp at hk
  | cons a r ih =>
    unfold getK at ih ⊢
    rw [List.map_cons, List.find?_cons]
    by_cases e : a.1 = k
    · simp [e]
    · rw [if_neg e]
      simp only [e, decide_false]
      refine ih ?_
      simpa [e] using hk
theorem find_map_ne (kvs : List (Key × D)) (k k' : Key) (d : D) (ne : k' ≠ k) : getK (kvs.map fun kv => if kv.1 = k then (kv.1, d) else kv) k' = getK kvs k' := by
  induction kvs with
  | nil => rfl
  | cons a r ih =>
    unfold getK at ih ⊢
    rw [List.map_cons, List.find?_cons, List.find?_cons]
    by_cases e : a.1 = k
    · rw [if_pos e]
      have : ¬ k = k' := fun z => ne z.symm
      simp only [e, this, decide_false]
      exact ih
    · rw [if_neg e]
      by_cases e2 : a.1 = k'
      · simp [e2]
      · simp only [e2, decide_false]
        exact ih
theorem getK_put (kvs : List (Key × D)) (k k' : Key) (d : D) : getK (putKD kvs k d) k' = if k' = k then some d else getK kvs k' := by
  unfold putKD
  by_cases e : k' = k
  · subst e
    rw [if_pos rfl]
    split
    · rename_i h
      exact find_map_eq kvs k' d h
    · rename_i h
      unfold getK
      rw [List.find?_append]
      have : kvs.find? (fun kv => decide (kv.1 = k')) = none := by
        rw [List.find?_eq_none]
        intro x hx hd
        exact h (List.any_eq_true.mpr ⟨x, hx, hd⟩)
      rw [this]
      simp
  · rw [if_neg e]
    split
    · exact find_map_ne kvs k k' d e
    · unfold getK
      rw [List.find?_append]
      have : ¬ k = k' := fun z => e z.symm
      cases kvs.find? (fun kv => decide (kv.1 = k')) <;> simp [this]
/-- a page as a dict's key -/
def Pg.ky : Pg → Key
  | .free => .inr "free"
  | .old => .inr "old"
  | .key k => .inl (k : Int)
theorem Pg.keyD (p : Pg) : DL.keyD p.d = some p.ky := by cases p <;> rfl
theorem put_dic {h : DH} {n : Nat} {kvs : List (Key × D)} {p v : D} {k : Key} (e : h[n]? = some (.dic kvs)) (hk : DL.keyD p = some k) (hl : kvs.length < 16777216) : sPut (.ref n) p v h = .ok .non (h.set n (.dic (putKD kvs k v))) := by
  simp only [sPut, e, hk, if_pos hl]
theorem inY_dic {h : DH} {n : Nat} {kvs : List (Key × D)} {x : D} {k : Key} (e : h[n]? = some (.dic kvs)) (hk : DL.keyD x = some k) : oInY x (.ref n) h = .ok (.bl (getK kvs k).isSome) h := by
  refine oInY_old ?_
  simp only [inD, e, hk]
/-! ### acts -/
inductive Act where
  | write (b : Nat)
  | copy (k b : Nat)
  | erase (b : Nat)
def Act.d : Act → D
  | .write b => .tup [.str "write", .int (b : Int)]
  | .copy k b => .tup [.str "copy", .int (k : Int), .int (b : Int)]
  | .erase b => .tup [.str "erase", .int (b : Int)]
theorem Act.cl (a : Act) : closed a.d = true := by cases a <;> rfl
def Act.isW : Act → Bool
  | .write _ => true
  | _ => false
def Act.blk : Act → Nat
  | .write b => b
  | .copy _ b => b
  | .erase b => b
inductive Rp where
  | done
  | bad
  | cut
  | late
  deriving DecidableEq
def Rp.s : Rp → Str
  | .done => "done"
  | .bad => "bad"
  | .cut => "cut"
  | .late => "late"
def Rp.d (r : Rp) : D := .str r.s
theorem Rp.cl (r : Rp) : closed r.d = true := rfl
def Bk.room (b : Bk) : Bool := decide (b.left ≠ .bad) && decide (b.pgs.getLast? = some .free)
def Bk.can (b : Bk) : Bool := decide (b.left ≠ .bad) && (decide (b.left ≠ .num 0) && (decide (b.pgs.head? ≠ some .free) && !b.pgs.any Pg.isK))
def rooms (rs : List Bk) : List Nat := (rs.zipIdx.filter fun p => p.1.room).map (·.2)
def home (rs : List Bk) (k : Nat) : Option Nat := rs.findIdx? fun b => decide (.key k ∈ b.pgs)
def copies (rs : List Bk) (k : Nat) : List Act := match home rs k with
  | none => []
  | some j => ((rooms rs).filter fun b => decide (b ≠ j)).map (.copy k)
def wipes (rs : List Bk) : List Nat := (rs.zipIdx.filter fun p => p.1.can).map (·.2)
def actsOf (s : Sh) : List Act := match s.asked with
  | none => []
  | some _ => (rooms s.rows).map .write ++ (List.range s.keys).flatMap (copies s.rows) ++ (wipes s.rows).map .erase
def repliesOf (s : Sh) : List Rp := .done :: ((if s.fails = 0 then [] else [.bad]) ++ (if s.cuts = 0 then [] else [.cut, .late]))
theorem zip_at {α : Type} {l : List α} {i : Nat} {x : α} (h : l[i]? = some x) : l.zipIdx[i]? = some (x, i) := by
  rw [List.getElem?_zipIdx, h]; simp
theorem zip_mem {α : Type} {l : List α} {p : α × Nat} (h : p ∈ l.zipIdx) : l[p.2]? = some p.1 := by
  obtain ⟨x, i⟩ := p
  exact List.mem_zipIdx_iff_getElem?.mp h
theorem pairs_map {α : Type} (f : α → D) (l : List α) : pairs (l.map f) = l.zipIdx.map fun p => D.tup [.int (p.2 : Nat), f p.1] := by
  refine List.ext_getElem? fun i => ?_
  rw [DL.pairs_at, List.getElem?_map, List.getElem?_map, List.getElem?_zipIdx]
  cases l[i]? <;> simp
theorem rooms_len (rs : List Bk) : (rooms rs).length ≤ rs.length := by
  unfold rooms
  rw [List.length_map]
  exact Nat.le_trans (List.length_filter_le _ _) (by rw [List.length_zipIdx]; exact Nat.le_refl _)
theorem wipes_len (rs : List Bk) : (wipes rs).length ≤ rs.length := by
  unfold wipes
  rw [List.length_map]
  exact Nat.le_trans (List.length_filter_le _ _) (by rw [List.length_zipIdx]; exact Nat.le_refl _)
theorem copies_len (rs : List Bk) (k : Nat) : (copies rs k).length ≤ rs.length := by
  unfold copies
  split
  · simp
  · rw [List.length_map]
    exact Nat.le_trans (List.length_filter_le _ _) (rooms_len rs)
theorem flat_len {α β : Type} {f : α → List β} {m : Nat} (h : ∀ a, (f a).length ≤ m) : ∀ l : List α, (l.flatMap f).length ≤ l.length * m
  | [] => by simp
  | a :: l => by
    have := flat_len h l
    have := h a
    rw [List.flatMap_cons, List.length_append, List.length_cons, Nat.succ_mul]
    omega
theorem room_mem {rs : List Bk} {b : Nat} (h : b ∈ rooms rs) : ∃ r, rs[b]? = some r ∧ r.room = true := by
  unfold rooms at h
  obtain ⟨⟨r, i⟩, h1, rfl⟩ := List.mem_map.mp h
  obtain ⟨h2, h3⟩ := List.mem_filter.mp h1
  exact ⟨r, zip_mem h2, h3⟩
theorem wipe_mem {rs : List Bk} {b : Nat} (h : b ∈ wipes rs) : ∃ r, rs[b]? = some r ∧ r.can = true := by
  unfold wipes at h
  obtain ⟨⟨r, i⟩, h1, rfl⟩ := List.mem_map.mp h
  obtain ⟨h2, h3⟩ := List.mem_filter.mp h1
  exact ⟨r, zip_mem h2, h3⟩
theorem home_of {s : Sh} {np : Nat} (ok : s.ok np) {k j : Nat} : home s.rows k = some j ↔ ∃ b, s.rows[j]? = some b ∧ .key k ∈ b.pgs := by
  unfold home
  constructor
  · intro h
    obtain ⟨hl, h1, _⟩ := List.findIdx?_eq_some_iff_getElem.mp h
    exact ⟨s.rows[j], List.getElem?_eq_getElem hl, by simpa using h1⟩
  · rintro ⟨b, hb, hk⟩
    obtain ⟨hl, e⟩ := List.getElem?_eq_some_iff.mp hb
    refine List.findIdx?_eq_some_iff_getElem.mpr ⟨hl, by rw [e]; simpa using hk, fun i hi hd => ?_⟩
    have hd' : Pg.key k ∈ (s.rows[i]'(by omega)).pgs := by simpa using hd
    obtain ⟨a, ha, ea⟩ := List.getElem_of_mem hd'
    obtain ⟨c, hc, ec⟩ := List.getElem_of_mem hk
    have := ok.once i j a c _ _ k (List.getElem?_eq_getElem (by omega)) hb (by rw [List.getElem?_eq_getElem ha, ea]) (by rw [List.getElem?_eq_getElem hc, ec])
    omega
theorem home_none {s : Sh} {np : Nat} (ok : s.ok np) {k : Nat} (h : ∀ (j : Nat) (b : Bk), s.rows[j]? = some b → .key k ∉ b.pgs) : home s.rows k = none := by
  cases e : home s.rows k with
  | none => rfl
  | some j =>
    obtain ⟨b, h1, h2⟩ := (home_of ok).mp e
    exact absurd h2 (h j b h1)
theorem act_blk {s : Sh} {a : Act} (h : a ∈ actsOf s) : ∃ r, s.rows[a.blk]? = some r ∧ (match a with | .erase _ => r.can = true | _ => r.room = true) := by
  unfold actsOf at h
  split at h
  · cases h
  · rcases List.mem_append.mp h with h | h
    · rcases List.mem_append.mp h with h | h
      · obtain ⟨b, hb, rfl⟩ := List.mem_map.mp h
        exact room_mem hb
      · obtain ⟨k, _, h⟩ := List.mem_flatMap.mp h
        unfold copies at h
        split at h
        · cases h
        · obtain ⟨b, hb, rfl⟩ := List.mem_map.mp h
          exact room_mem (List.mem_filter.mp hb).1
    · obtain ⟨b, hb, rfl⟩ := List.mem_map.mp h
      exact wipe_mem hb
theorem act_key {s : Sh} {k b : Nat} (h : Act.copy k b ∈ actsOf s) : k < s.keys := by
  unfold actsOf at h
  split at h
  · cases h
  · rcases List.mem_append.mp h with h | h
    · rcases List.mem_append.mp h with h | h
      · obtain ⟨_, _, e⟩ := List.mem_map.mp h
        cases e
      · obtain ⟨k', hk, h⟩ := List.mem_flatMap.mp h
        unfold copies at h
        split at h
        · cases h
        · obtain ⟨_, _, e⟩ := List.mem_map.mp h
          cases e
          exact List.mem_range.mp hk
    · obtain ⟨_, _, e⟩ := List.mem_map.mp h
      cases e
theorem acts_asked {s : Sh} {a : Act} (h : a ∈ actsOf s) : ∃ k, s.asked = some k := by
  unfold actsOf at h
  cases e : s.asked with
  | none => rw [e] at h; cases h
  | some k => exact ⟨k, rfl⟩
theorem acts_len (s : Sh) {np : Nat} (ok : s.ok np) : (actsOf s).length ≤ 200 := by
  unfold actsOf
  split
  · simp
  · have h1 := rooms_len s.rows
    have h2 := wipes_len s.rows
    have h3 := flat_len (copies_len s.rows) (List.range s.keys)
    rw [List.length_range] at h3
    have := ok.many
    have := ok.keys
    have : s.keys * s.rows.length ≤ 9 * 9 := Nat.mul_le_mul (by omega) (by omega)
    rw [List.length_append, List.length_append, List.length_map, List.length_map]
    omega
/-- a page's index in front of the free ones -/
theorem idx_of {ps : List Pg} {q : Pg} (h : q ∈ ps) : ∃ j, ps.findIdx? (fun p => decide (p = q)) = some j ∧ ps[j]? = some q ∧ ∀ i, i < j → ps[i]? ≠ some q := by
  cases e : ps.findIdx? (fun p => decide (p = q)) with
  | none =>
    have := List.findIdx?_eq_none_iff.mp e q h
    simp at this
  | some j =>
    obtain ⟨hl, h1, h2⟩ := List.findIdx?_eq_some_iff_getElem.mp e
    refine ⟨j, rfl, by rw [List.getElem?_eq_getElem hl]; simpa using h1, fun i hi z => ?_⟩
    obtain ⟨il, ie⟩ := List.getElem?_eq_some_iff.mp z
    have := h2 i hi
    simp [ie] at this
def putAt (ps : List Pg) (q r : Pg) : List Pg := match ps.findIdx? fun p => decide (p = q) with
  | some j => ps.take j ++ [r] ++ ps.drop (j + 1)
  | none => ps
def Bk.fill (b : Bk) (p : Pg) : Bk := ⟨b.left, putAt b.pgs .free p⟩
def Bk.wo (b : Bk) (k : Nat) : Bk := ⟨b.left, putAt b.pgs (.key k) .old⟩
def Bk.gone (b : Bk) : Bk := ⟨.bad, b.pgs.map fun p => if p = .free then .old else p⟩
def Lf.less : Lf → Lf
  | .num n => .num (n - 1)
  | l => l
def Bk.wipe (b : Bk) (p : Pg) : Bk := ⟨b.left.less, List.replicate b.pgs.length p⟩
def Sh.at_ (s : Sh) (b : Nat) (f : Bk → Bk) : List Bk := s.rows.modify b f
def rowsAfter (s : Sh) (a : Act) (r : Rp) : List Bk := match r, a with
  | .bad, a => s.rows.modify a.blk Bk.gone
  | .cut, .erase b => s.rows.modify b fun x => x.wipe .old
  | _, .erase b => s.rows.modify b fun x => x.wipe .free
  | .cut, a => s.rows.modify a.blk fun x => x.fill .old
  | _, .write b => (s.rows.map fun x => x.wo (s.asked.getD 0)).modify b fun x => x.fill (.key (s.asked.getD 0))
  | _, .copy k b => (s.rows.map fun x => x.wo k).modify b fun x => x.fill (.key k)
def serve (a : Act) (r : Rp) : Bool := match a, r with
  | .write _, .done => true
  | _, _ => false
def after (s : Sh) (a : Act) (r : Rp) : Sh := match r with
  | .bad => ⟨s.keys, rowsAfter s a r, s.fails - 1, s.cuts, s.asked⟩
  | .done => ⟨s.keys, rowsAfter s a r, s.fails, s.cuts, match a with | .write _ => none | _ => s.asked⟩
  | _ => ⟨s.keys, rowsAfter s a r, s.fails, s.cuts - 1, none⟩
theorem cut_1 (ds : List D) : DL.cutD ds (some 1) none = ds.drop 1 := cut_from 1
theorem cut_2 (ds : List D) : DL.cutD ds (some 2) none = ds.drop 2 := cut_from 2
theorem atI_neg2 {a b : D} : L2.atI [a, b] (-1) = some b := atI_neg1 (l := [a])
theorem atI_neg3 {a b c : D} : L2.atI [a, b, c] (-1) = some c := atI_neg1 (l := [a, b])
/-- the keys in pages -/
def ksOf (ps : List Pg) : List Nat := ps.filterMap fun p => match p with
  | .key k => some k
  | _ => none
theorem ks_mem {ps : List Pg} {k : Nat} : k ∈ ksOf ps ↔ .key k ∈ ps := by
  unfold ksOf
  rw [List.mem_filterMap]
  constructor
  · rintro ⟨p, hp, e⟩
    cases p with
    | key j => cases e; exact hp
    | _ => cases e
  · intro h
    exact ⟨_, h, rfl⟩
theorem ks_map : ∀ ps : List Pg, (ps.filter Pg.isK).map Pg.d = (ksOf ps).map fun k => D.int ((k : Nat) : Int)
  | [] => rfl
  | .key k :: ps => by
    have := ks_map ps
    unfold ksOf at this ⊢
    rw [List.filter_cons_of_pos rfl, List.map_cons, this, List.filterMap_cons]
    rfl
  | .free :: ps => by
    have := ks_map ps
    unfold ksOf at this ⊢
    rw [List.filter_cons_of_neg (by decide), this, List.filterMap_cons]
  | .old :: ps => by
    have := ks_map ps
    unfold ksOf at this ⊢
    rw [List.filter_cons_of_neg (by decide), this, List.filterMap_cons]
theorem ks_nil {ps : List Pg} : ksOf ps = [] ↔ ps.any Pg.isK = false := by
  unfold ksOf
  rw [List.filterMap_eq_nil_iff, List.any_eq_false]
  constructor
  · intro h p hp
    have := h p hp
    cases p <;> simp_all [Pg.isK]
  · intro h p hp
    have := h p hp
    cases p <;> simp_all [Pg.isK]
theorem isK_ne (p : Pg) : p.isK = (!decide (p = .free) && !decide (p = .old)) := by cases p <;> rfl
theorem head_at {l : List Pg} {p : Pg} (h : l.head? = some p) : L2.atI (l.map Pg.d) 0 = some p.d := by
  cases l with
  | nil => cases h
  | cons a r => cases h; exact atI_0
theorem last_at {l : List Pg} {p : Pg} (h : l.getLast? = some p) : L2.atI (l.map Pg.d) (-1) = some p.d := by
  obtain ⟨r, rfl⟩ := List.getLast?_eq_some_iff.mp h
  rw [List.map_append]
  exact atI_neg1
theorem head_some {l : List Pg} {n : Nat} (h : l.length = n) (hn : 1 ≤ n) : ∃ p, l.head? = some p := by
  cases l with
  | nil => simp at h; omega
  | cons a r => exact ⟨a, rfl⟩
theorem last_some {l : List Pg} {n : Nat} (h : l.length = n) (hn : 1 ≤ n) : ∃ p, l.getLast? = some p := by
  cases e : l.getLast? with
  | none => rw [List.getLast?_eq_none_iff.mp e] at h; simp at h; omega
  | some p => exact ⟨p, rfl⟩
theorem rd_at {rs : List Bk} {b : Nat} {r : Bk} (h : rs[b]? = some r) : L2.atI (rs.map Bk.d) (b : Int) = some r.d := atI_n (by rw [List.getElem?_map, h]; rfl)
theorem rd_pt {s : Sh} {b : Nat} {r : Bk} (h : s.rows[b]? = some r) : oIx s.rd (.int (b : Int)) = fun h => .ok r.d h := by
  funext h'
  rw [Sh.rd, oIx_tupX, rd_at h]; rfl
section
variable {s : Sh} {h : DH}
theorem sh_0 : oIx s.d (.int 0) h = .ok (.int (s.keys : Int)) h := rfl
theorem sh_1 : oIx s.d (.int 1) h = .ok s.rd h := rfl
theorem sh_2 : oIx s.d (.int 2) h = .ok (.int (s.fails : Int)) h := rfl
theorem sh_3 : oIx s.d (.int 3) h = .ok (.int (s.cuts : Int)) h := rfl
theorem sh_4 : oIx s.d (.int 4) h = .ok (optD s.asked) h := rfl
theorem bk_0 {b : Bk} : oIx b.d (.int 0) h = .ok b.left.d h := rfl
theorem bk_1 {b : Bk} : oIx b.d (.int 1) h = .ok b.pd h := rfl
theorem gt_bk {b : Bk} {gs : DGs} {σ : DE} : gT gs b.d σ = gs [b.left.d, b.pd] σ := rfl
theorem iter_rd : iterS s.rd h = .ok ⟨s.rows.map Bk.d, fun _ => True⟩ h := iterS_tup
theorem iter_pd {b : Bk} : iterS b.pd h = .ok ⟨b.pgs.map Pg.d, fun _ => True⟩ h := iterS_tup
theorem enum_rd : enumU s.rd h = .ok ⟨s.rows.zipIdx.map fun p => D.tup [.int (p.2 : Nat), p.1.d], fun _ => True⟩ h := by
  rw [Sh.rd, enumU_tup, pairs_map]
end
theorem putKD_closed {kvs : List (Key × D)} {k : Key} {d : D} (h : closeds (kvs.map (·.2)) = true) (hd : closed d = true) : closeds ((putKD kvs k d).map (·.2)) = true := by
  rw [closeds_all] at h ⊢
  rw [List.all_eq_true] at h ⊢
  intro x hx
  obtain ⟨kv, hm, rfl⟩ := List.mem_map.mp hx
  unfold putKD at hm
  split at hm
  · obtain ⟨kv', h1, rfl⟩ := List.mem_map.mp hm
    split
    · exact hd
    · exact h _ (List.mem_map.mpr ⟨kv', h1, rfl⟩)
  · rcases List.mem_append.mp hm with h1 | h1
    · exact h _ (List.mem_map.mpr ⟨kv, h1, rfl⟩)
    · rw [List.mem_singleton.mp h1]
      exact hd
/-! ### plain data -/
theorem sk {x : String} (h : PyData.strOk (Str.ofString x) = true := by decide +kernel) (n : Nat) : plainD n (.str x) = true := by cases n <;> exact h
theorem pl_int (n : Nat) (i : Int) : plainD n (.int i) = true := by cases n <;> rfl
theorem Pg.pl (n : Nat) (p : Pg) : plainD n p.d = true := by
  cases p with
  | free => exact sk (x := "free") (n := n)
  | old => exact sk (x := "old") (n := n)
  | key k => exact pl_int _ _
theorem Lf.pl (n : Nat) (l : Lf) : plainD n l.d = true := by
  cases l with
  | bad => cases n <;> rfl
  | ever => exact sk (x := "ever") (n := n)
  | num k => exact pl_int _ _
theorem Bk.plp (b : Bk) : plainD 1 b.pd = true := plains_map fun p _ => p.pl 0
theorem Bk.pl (b : Bk) : plainD 2 b.d = true := by
  show (plainD 1 b.left.d && (plainD 1 b.pd && true)) = true
  rw [b.left.pl, b.plp]; rfl
theorem Sh.plr (s : Sh) : plainD 3 s.rd = true := plains_map fun b _ => b.pl
theorem optD_pl (n : Nat) (o : Option Nat) : plainD n (optD o) = true := by cases o <;> cases n <;> rfl
theorem Sh.pl (s : Sh) : plainD 4 s.d = true := by
  show plainsD 3 [.int (s.keys : Int), s.rd, .int (s.fails : Int), .int (s.cuts : Int), optD s.asked] = true
  simp only [plainsD, s.plr, pl_int, optD_pl, Bool.and_self]
theorem Act.pl (a : Act) : plainD 1 a.d = true := by
  cases a with
  | write b => show (plainD 0 _ && (plainD 0 _ && true)) = true; rw [sk (x := "write") (n := 0), pl_int]; rfl
  | erase b => show (plainD 0 _ && (plainD 0 _ && true)) = true; rw [sk (x := "erase") (n := 0), pl_int]; rfl
  | copy k b => show (plainD 0 _ && (plainD 0 _ && (plainD 0 _ && true))) = true; rw [sk (x := "copy") (n := 0), pl_int, pl_int]; rfl
theorem Rp.pl (n : Nat) (r : Rp) : plainD n r.d = true := by
  cases r with
  | done => exact sk (x := "done") (n := n)
  | bad => exact sk (x := "bad") (n := n)
  | cut => exact sk (x := "cut") (n := n)
  | late => exact sk (x := "late") (n := n)
theorem Rp.d_inj {p q : Rp} (e : p.d = q.d) : p = q := by
  cases p <;> cases q <;> first | rfl | (simp [Rp.d, Rp.s] at e; done)
theorem Act.d_inj {p q : Act} (e : p.d = q.d) : p = q := by
  cases p <;> cases q <;> simp [Act.d] at e <;> first | (obtain ⟨h1, h2⟩ := e; congr 1 <;> omega) | (congr 1; omega) | skip
theorem mem_map_inj {α : Type} {f : α → D} (inj : ∀ {a b : α}, f a = f b → a = b) {l : List α} {a : α} : f a ∈ l.map f ↔ a ∈ l := by
  constructor
  · intro h
    obtain ⟨b, hb, e⟩ := List.mem_map.mp h
    rw [← inj e]; exact hb
  · exact fun h => List.mem_map_of_mem h
theorem mod_set {α : Type} {l : List α} {b : Nat} {x : α} (h : l[b]? = some x) (f : α → α) : l.modify b f = l.set b (f x) := by
  refine List.ext_getElem? fun i => ?_
  rw [List.getElem?_modify, List.getElem?_set]
  by_cases e : b = i
  · subst e
    obtain ⟨hl, e⟩ := List.getElem?_eq_some_iff.mp h
    simp [hl, e]
  · simp [e]
theorem mod_map {l : List Bk} {b : Nat} {x : Bk} (h : l[b]? = some x) (f : Bk → Bk) : (l.modify b f).map Bk.d = (l.map Bk.d).set b (f x).d := by
  rw [mod_set h, List.map_set]
theorem put_len (ps : List Pg) (q r : Pg) : (putAt ps q r).length = ps.length := by
  unfold putAt
  split
  · rename_i j e
    have := (List.findIdx?_eq_some_iff_getElem.mp e).1
    rw [List.length_append, List.length_append, List.length_take, List.length_drop, List.length_singleton]
    omega
  · rfl
theorem put_mem {ps : List Pg} {p q r : Pg} (h : p ∈ ps) (ne : p ≠ q) : p ∈ putAt ps q r := by
  unfold putAt
  split
  · rename_i j e
    obtain ⟨hl, h1, _⟩ := List.findIdx?_eq_some_iff_getElem.mp e
    obtain ⟨i, il, ei⟩ := List.getElem_of_mem h
    have : i ≠ j := fun z => by
      subst z
      rw [ei] at h1
      exact ne (of_decide_eq_true h1)
    rcases Nat.lt_or_gt_of_ne this with l | l
    · refine List.mem_append_left _ (List.mem_append_left _ ?_)
      rw [List.mem_take_iff_getElem]
      exact ⟨i, by omega, ei⟩
    · refine List.mem_append_right _ ?_
      rw [List.mem_drop_iff_getElem]
      exact ⟨i - (j + 1), by omega, by rw [← ei]; congr 1; omega⟩
  · exact h
theorem put_at_eq {ps : List Pg} {q r : Pg} {j : Nat} (e : ps.findIdx? (fun p => decide (p = q)) = some j) : putAt ps q r = ps.set j r := by
  have hl := (List.findIdx?_eq_some_iff_getElem.mp e).1
  unfold putAt
  rw [e]
  simp only
  rw [List.set_eq_take_append_cons_drop, if_pos hl]
  simp
theorem room_free {b : Bk} (h : b.room = true) : .free ∈ b.pgs ∧ b.left ≠ .bad := by
  unfold Bk.room at h
  rw [Bool.and_eq_true] at h
  exact ⟨List.mem_of_getLast? (of_decide_eq_true h.2), of_decide_eq_true h.1⟩
theorem can_left {b : Bk} (h : b.can = true) : b.left ≠ .bad ∧ b.left ≠ .num 0 := by
  unfold Bk.can at h
  rw [Bool.and_eq_true, Bool.and_eq_true] at h
  exact ⟨of_decide_eq_true h.1, of_decide_eq_true h.2.1⟩
/-! ### the object -/
def formF (s : Sh) : List (Str × D) := [("form", s.d)]
def stObj (s : Sh) : Cell := .obj "Stand" (formF s)
theorem stObj_cl (s : Sh) : closedC (stObj s) = true := by
  show (closed s.d && true) = true
  rw [s.cl]; rfl
def sh1 : Sh := ⟨1, [⟨.num 0, [.old]⟩], 0, 0, none⟩
theorem sh1_ok : sh1.ok 1 := by
  refine ⟨by decide, by decide, by decide, fun b hb => ?_, fun i j a c b b' k hi hj ha hc => ?_, by decide, by decide, fun k e => by cases e⟩
  · have : b = ⟨.num 0, [.old]⟩ := List.mem_singleton.mp hb
    subst this
    refine ⟨rfl, fun p hp => ?_, fun i j l hi => ?_, fun n e => ?_, fun e => by cases e⟩
    · rw [List.mem_singleton.mp hp]; trivial
    · match i, hi with
      | 0, hi => cases hi
      | i + 1, hi => cases hi
    · cases e; omega
  · have e1 : b = ⟨.num 0, [.old]⟩ := List.mem_singleton.mp (List.mem_of_getElem? hi)
    subst e1
    match a, ha with
    | 0, ha => cases ha
    | a + 1, ha => cases ha
theorem sh1_rows (h : Prop) : sh1.rows.map Bk.d = [.tup [.int 0, .tup [.str "old"]]] := rfl
/-! ### drawing -/
/-- one more key taken out of a list -/
theorem DL_pop {h : DH} {n k : Nat} {p : List D} {d : D} (e : h[n]? = some (.lst p)) (hd : p[k]? = some d) (hl : p.length ≤ 1000) : mPop (.ref n) [.int (k : Int)] h = .ok d (h.set n (.lst (p.eraseIdx k))) := by
  have kl := (List.getElem?_eq_some_iff.mp hd).1
  have q : seqIndex? (k : Int) p.length = some k := by
    unfold seqIndex?
    simp
    omega
  have z : -(2 ^ 62) ≤ (k : Int) ∧ (k : Int) < 2 ^ 62 := ⟨by omega, by omega⟩
  simp only [mPop, e, if_pos z, q, hd]
theorem perm_pop : ∀ {l : List Nat} {k x : Nat}, l[k]? = some x → (x :: l.eraseIdx k).Perm l
  | [], _, _, h => by simp at h
  | a :: l, 0, x, h => by
    simp at h
    subst h
    exact List.Perm.refl _
  | a :: l, k + 1, x, h => by
    have := perm_pop (l := l) (k := k) (by simpa using h)
    rw [List.eraseIdx_cons_succ]
    exact (List.Perm.swap a x _).trans (this.cons a)
theorem er_map {α β : Type} (f : α → β) : ∀ (l : List α) (k : Nat), (l.map f).eraseIdx k = (l.eraseIdx k).map f
  | [], _ => rfl
  | _ :: _, 0 => rfl
  | a :: l, k + 1 => by rw [List.map_cons, List.eraseIdx_cons_succ, List.eraseIdx_cons_succ, er_map f l k, List.map_cons]
/-- pages as drawn: written ones ahead -/
structure Drawn (ps : List Pg) (np w : Nat) (rest rest' : List Nat) : Prop where
  len : ps.length = np
  free : ∀ i p, ps[i]? = some p → (p = .free ↔ w ≤ i)
  perm : (ksOf ps ++ rest').Perm rest
theorem ks_app (a b : List Pg) : ksOf (a ++ b) = ksOf a ++ ksOf b := by unfold ksOf; rw [List.filterMap_append]
theorem Drawn.tail {ps : List Pg} {np w : Nat} {rest rest' : List Nat} (d : Drawn ps np w rest rest') : Tail ps := fun i j ij hi p hj => by
  have := (d.free i .free hi).mp rfl
  exact (d.free j p hj).mpr (by omega)
theorem nodup_pos : ∀ {ps : List Pg} {k a c : Nat}, (ksOf ps).Nodup → ps[a]? = some (.key k) → ps[c]? = some (.key k) → a = c
  | [], _, _, _, _, h, _ => by simp at h
  | p :: ps, k, 0, 0, _, _, _ => rfl
  | p :: ps, k, 0, c + 1, nd, ha, hc => by
    simp at ha hc
    subst ha
    have : ksOf (.key k :: ps) = k :: ksOf ps := rfl
    rw [this, List.nodup_cons] at nd
    exact absurd (ks_mem.mpr (List.mem_of_getElem? hc)) nd.1
  | p :: ps, k, a + 1, 0, nd, ha, hc => by
    simp at ha hc
    subst hc
    have : ksOf (.key k :: ps) = k :: ksOf ps := rfl
    rw [this, List.nodup_cons] at nd
    exact absurd (ks_mem.mpr (List.mem_of_getElem? ha)) nd.1
  | p :: ps, k, a + 1, c + 1, nd, ha, hc => by
    have nd' : (ksOf ps).Nodup := by
      have e : ksOf (p :: ps) = ksOf [p] ++ ksOf ps := ks_app [p] ps
      rw [e, List.nodup_append] at nd
      exact nd.2.1
    have := nodup_pos nd' (by simpa using ha) (by simpa using hc)
    omega
def allKs (rs : List Bk) : List Nat := rs.flatMap fun b => ksOf b.pgs
theorem once_of : ∀ {rs : List Bk}, (allKs rs).Nodup → ∀ (i j a c : Nat) (b b' : Bk) (k : Nat), rs[i]? = some b → rs[j]? = some b' → b.pgs[a]? = some (.key k) → b'.pgs[c]? = some (.key k) → i = j ∧ a = c
  | [], _, _, _, _, _, _, _, _, h, _, _, _ => by simp at h
  | r :: rs, nd, i, j, a, c, b, b', k, hi, hj, ha, hc => by
    have e : allKs (r :: rs) = ksOf r.pgs ++ allKs rs := rfl
    rw [e, List.nodup_append] at nd
    obtain ⟨n1, n2, n3⟩ := nd
    have inr : ∀ (m : Nat) (x : Bk) (q : Nat), rs[m]? = some x → x.pgs[q]? = some (.key k) → k ∈ allKs rs := fun m x q hm hq => List.mem_flatMap.mpr ⟨_, List.mem_of_getElem? hm, ks_mem.mpr (List.mem_of_getElem? hq)⟩
    match i, j, hi, hj with
    | 0, 0, hi, hj =>
      simp at hi hj
      subst hi hj
      exact ⟨rfl, nodup_pos n1 ha hc⟩
    | 0, j + 1, hi, hj =>
      simp at hi hj
      subst hi
      exact absurd rfl (n3 k (ks_mem.mpr (List.mem_of_getElem? ha)) k (inr _ _ _ hj hc))
    | i + 1, 0, hi, hj =>
      simp at hi hj
      subst hj
      exact absurd rfl (n3 k (ks_mem.mpr (List.mem_of_getElem? hc)) k (inr _ _ _ hi ha))
    | i + 1, j + 1, hi, hj =>
      simp at hi hj
      obtain ⟨h1, h2⟩ := once_of n2 i j a c b b' k hi hj ha hc
      exact ⟨by omega, h2⟩
def lawLeft (d : Int) : Lf := if d < 10 then .bad else if d < 20 then .ever else if d < 120 then .num (d - 20).toNat else .num (d % 3).toNat
/-- a block as drawn -/
structure BkDrawn (b : Bk) (np : Nat) (rest rest' : List Nat) : Prop where
  pages : ∃ w, Drawn b.pgs np w rest rest' ∧ (b.left = .bad → w = np)
  left : ∀ n, b.left = .num n → n ≤ 99
theorem BkDrawn.ok {b : Bk} {np keys : Nat} {rest rest' : List Nat} (d : BkDrawn b np rest rest') (hk : ∀ k ∈ rest, k < keys) : b.ok keys np := by
  obtain ⟨w, dr, wb⟩ := d.pages
  refine ⟨dr.len, fun p hp => ?_, dr.tail, d.left, fun e m => ?_⟩
  · cases p with
    | key k => exact hk k (dr.perm.mem_iff.mp (List.mem_append_left _ (ks_mem.mpr hp)))
    | _ => trivial
  · obtain ⟨i, il, e2⟩ := List.getElem_of_mem m
    have := (dr.free i .free (by rw [List.getElem?_eq_getElem il, e2])).mp rfl
    have := wb e
    have := dr.len
    omega
theorem digits_pos {c : Int} {l : List Int} (h : ∀ s ∈ l, 0 < s) : ∀ d ∈ digits c l, 0 ≤ d := fun d hd => by
  obtain ⟨i, il, e⟩ := List.getElem_of_mem hd
  have il2 : i < l.length := by rw [digits_len] at il; exact il
  obtain ⟨d', h1, h2, _⟩ := digits_get (c := c) (List.getElem?_eq_getElem il2) (h _ (List.getElem_mem il2))
  rw [List.getElem?_eq_getElem il, e] at h1
  cases h1
  exact h2
theorem split2 {c a b : Int} {l : List Int} (ha : 0 < a) (hb : 0 < b) (hl : ∀ s ∈ l, 0 < s) : ∃ x y r, digits c (a :: b :: l) = x :: y :: r ∧ (0 ≤ x ∧ x < a) ∧ (0 ≤ y ∧ y < b) ∧ r.length = l.length ∧ ∀ d ∈ r, 0 ≤ d := by
  have len := digits_len c (a :: b :: l)
  have pos := digits_pos (c := c) (l := a :: b :: l) (fun s hs => by
    rcases List.mem_cons.mp hs with rfl | hs
    · exact ha
    · rcases List.mem_cons.mp hs with rfl | hs
      · exact hb
      · exact hl s hs)
  obtain ⟨x, h1, h2⟩ := digits_get (c := c) (l := a :: b :: l) (i := 0) rfl ha
  obtain ⟨y, h3, h4⟩ := digits_get (c := c) (l := a :: b :: l) (i := 1) rfl hb
  match e : digits c (a :: b :: l) with
  | [] => rw [e] at len; simp at len
  | [_] => rw [e] at len; simp at len
  | p :: q :: r =>
    rw [e] at h1 h3 len pos
    cases h1
    cases h3
    exact ⟨x, y, r, rfl, h2, h4, by simpa using len, fun d hd => pos d (List.mem_cons_of_mem _ (List.mem_cons_of_mem _ hd))⟩
theorem okS {s : Int} (h : 0 < s) (h2 : s.natAbs < 2 ^ 100) : okSize s := ⟨h, by
  have hn : s.natAbs ≠ 0 := by omega
  have := (Nat.log2_lt hn).mpr h2
  omega⟩
theorem set_app {h g : DH} {n : Nat} {c : Cell} (hn : n < h.length) : (h ++ g).set n c = h.set n c ++ g := List.set_append_left _ _ hn
/-! ### the law's own model -/
def placeOf (rs : List Bk) (k : Nat) : Option (Nat × Nat) := match home rs k with
  | none => none
  | some j => some (j, (((rs[j]?).bind fun b => b.pgs.findIdx? fun p => decide (p = .key k)).getD 0))
def placeD : Option (Nat × Nat) → D
  | none => .non
  | some (b, p) => .tup [.int (b : Int), .int (p : Int)]
theorem wo_map {s : Sh} {np : Nat} (ok : s.ok np) {b : Bk} (hb : b ∈ s.rows) (k : Nat) : (b.wo k).pgs = b.pgs.map fun p => if p = .key k then .old else p := by
  obtain ⟨i, il, ei⟩ := List.getElem_of_mem hb
  have hi : s.rows[i]? = some b := by rw [List.getElem?_eq_getElem il, ei]
  unfold Bk.wo
  simp only
  cases e : b.pgs.findIdx? (fun p => decide (p = .key k)) with
  | none =>
    have no := List.findIdx?_eq_none_iff.mp e
    have : (b.pgs.map fun p => if p = .key k then Pg.old else p) = b.pgs.map id := List.map_congr_left fun p hp => if_neg (of_decide_eq_false (no p hp))
    rw [this, List.map_id]
    unfold putAt
    rw [e]
  | some j =>
    rw [put_at_eq e]
    obtain ⟨jl, h1, _⟩ := List.findIdx?_eq_some_iff_getElem.mp e
    have hj : b.pgs[j]? = some (.key k) := by rw [List.getElem?_eq_getElem jl, of_decide_eq_true h1]
    refine List.ext_getElem? fun a => ?_
    rw [List.getElem?_set, List.getElem?_map]
    by_cases z : j = a
    · subst z
      rw [if_pos rfl, if_pos jl, hj]
      simp
    · rw [if_neg z]
      cases q : b.pgs[a]? with
      | none => rfl
      | some p =>
        by_cases w : p = .key k
        · subst w
          exact absurd (ok.once i i j a b b k hi hi hj q).2 z
        · simp [w]
theorem gone_d (b : Bk) : b.gone.d = .tup [.non, .tup (b.pgs.map fun p => (if p = .free then Pg.old else p).d)] := by
  simp only [Bk.gone, Bk.d, Bk.pd, Lf.d, List.map_map]
  rfl
theorem wipe_d (b : Bk) (p : Pg) : (b.wipe p).d = .tup [b.left.less.d, .tup (List.replicate b.pgs.length p.d)] := by
  simp only [Bk.wipe, Bk.d, Bk.pd, List.map_replicate]
theorem flat_rep_one {d : D} (k : Nat) : (List.replicate k [d]).flatten = List.replicate k d := by
  induction k with
  | zero => rfl
  | succ k ih => rw [List.replicate_succ, List.flatten_cons, ih, List.replicate_succ]; rfl
theorem mul_one (d : D) (k : Nat) (h : DH) (hk : 1 ≤ k ∧ k ≤ 1000) : oMul (.tup [d]) (.int (k : Int)) h = .ok (.tup (List.replicate k d)) h := by
  have : ([d] ≠ [] ∧ (1 : Int) ≤ (k : Int) ∧ (k : Int) ≤ 1000 ∧ [d].length ≤ 1000) := ⟨by simp, by omega, by omega, by simp⟩
  simp only [oMul, if_pos this, Int.toNat_natCast, flat_rep_one]
/-- used pages all old, and some: by the tail of free ones -/
theorem used_can {b : Bk} {keys np : Nat} (ok : b.ok keys np) (hn : 1 ≤ np) (h1 : b.left ≠ .bad) (h2 : b.left ≠ .num 0) :
    b.can = (decide (b.pgs.filter (fun p => !decide (p = .free)) ≠ []) && decide (b.pgs.filter (fun p => !decide (p = .free)) = List.replicate (b.pgs.filter (fun p => !decide (p = .free))).length .old)) := by
  obtain ⟨p, hp⟩ := head_some ok.len hn
  have p0 : b.pgs[0]? = some p := by rw [← List.head?_eq_getElem?]; exact hp
  have ne : b.pgs.filter (fun p => !decide (p = .free)) ≠ [] ↔ p ≠ .free := by
    constructor
    · intro h e
      subst e
      refine h (List.filter_eq_nil_iff.mpr fun q hq => ?_)
      obtain ⟨j, jl, ej⟩ := List.getElem_of_mem hq
      have hj : b.pgs[j]? = some q := by rw [List.getElem?_eq_getElem jl, ej]
      by_cases z : j = 0
      · subst z
        rw [p0] at hj
        cases hj
        simp
      · rw [ok.tail 0 j (by omega) p0 q hj]
        simp
    · intro h e
      have := List.filter_eq_nil_iff.mp e p (List.mem_of_getElem? p0)
      simp at this
      exact h this
  have al : b.pgs.filter (fun p => !decide (p = .free)) = List.replicate (b.pgs.filter (fun p => !decide (p = .free))).length .old ↔ b.pgs.any Pg.isK = false := by
    rw [List.eq_replicate_iff, List.any_eq_false]
    constructor
    · rintro ⟨_, h⟩ q hq
      cases q with
      | key k =>
        have := h (.key k) (List.mem_filter.mpr ⟨hq, by simp⟩)
        cases this
      | _ => simp [Pg.isK]
    · intro h
      refine ⟨rfl, fun q hq => ?_⟩
      obtain ⟨m, nf⟩ := List.mem_filter.mp hq
      have := h q m
      cases q with
      | key k => simp [Pg.isK] at this
      | old => rfl
      | free => simp at nf
  unfold Bk.can
  rw [decide_eq_true h1, decide_eq_true h2, hp, Bool.true_and, Bool.true_and]
  by_cases z : p = .free
  · subst z
    rw [decide_eq_false (fun q => ne.mp q rfl)]
    simp
  · rw [decide_eq_true (ne.mpr z)]
    have : decide (some p ≠ some Pg.free) = true := by simp [z]
    rw [this, Bool.true_and, Bool.true_and]
    cases q : b.pgs.any Pg.isK with
    | false => rw [decide_eq_true (al.mpr q)]; rfl
    | true => rw [decide_eq_false (fun w => by rw [al.mp w] at q; cases q)]; rfl
theorem Lf.eq0 (l : Lf) (h : DH) (hb : l ≠ .bad) : oEq l.d (.int 0) h = .ok (.bl (decide (l = .num 0))) h := by
  cases l with
  | bad => exact absurd rfl hb
  | ever => simp [Lf.d]
  | num n =>
    have : decide ((n : Int) = 0) = decide (Lf.num n = .num 0) := by
      by_cases z : n = 0
      · subst z; simp
      · simp [z]
    simp [Lf.d, this]
theorem Bk.same {h : DH} {n : Nat} (b : Bk) (hl : b.pgs.length ≤ 6) : SameN h (n + 3) b.d b.d :=
  same_tup (by simp) fun d hd => by
    simp only [List.mem_cons, List.not_mem_nil, or_false] at hd
    rcases hd with rfl | rfl
    · exact same_flat (by cases b.left <;> rfl)
    · exact same_tup (by rw [List.length_map]; omega) fun d hd => by
        obtain ⟨p, _, rfl⟩ := List.mem_map.mp hd
        exact same_flat p.flat
theorem Sh.sameR {s : Sh} {np : Nat} (ok : s.ok np) {h : DH} {n : Nat} : SameN h (n + 4) s.rd s.rd :=
  same_tup (by rw [List.length_map]; have := ok.many; omega) fun d hd => by
    obtain ⟨b, hb, rfl⟩ := List.mem_map.mp hd
    exact b.same (by rw [(ok.rows b hb).len]; exact ok.pages.2)
theorem optD_flat (o : Option Nat) : flatD (optD o) = true := by cases o <;> rfl
theorem Sh.same {s : Sh} {np : Nat} (ok : s.ok np) {h : DH} {n : Nat} : SameN h (n + 5) s.d s.d :=
  same_tup (by simp) fun d hd => by
    simp only [List.mem_cons, List.not_mem_nil, or_false] at hd
    rcases hd with rfl | rfl | rfl | rfl | rfl
    · exact same_flat rfl
    · exact Sh.sameR ok
    · exact same_flat rfl
    · exact same_flat rfl
    · exact same_flat (optD_flat _)
theorem lk_form {x : D} {f : Str} : List.lookup f [(f, x)] = some x := by rw [List.lookup_cons, beq_self_eq_true]
theorem fld_form {s : Sh} {h : DH} {n : Nat} (hn : h[n]? = some (stObj s)) : fldD "Stand" "form" (.ref n) h = .ok s.d h := by
  rw [fld_at (fs := formF s) hn, formF, lk_form]; rfl
theorem obj_m {s : Sh} {h : DH} {n : Nat} (hn : h[n]? = some (stObj s)) {m : Str} (hm : (m == Str.ofString "form") = false) : isObj "Stand" m (.ref n) h = true := by
  rw [isObj_at (fs := formF s) hn, formF, List.lookup_cons, hm]; rfl
theorem tindex {ps : List Pg} {q : Pg} {j : Nat} (h : DH) (e : ps.findIdx? (fun p => decide (p = q)) = some j) : mTIndex (.tup (ps.map Pg.d)) [q.d] h = .ok (.int (j : Nat)) h := by
  have f : (ps.map Pg.d).findIdx? (fun d => eqF d q.d) = some j := by
    rw [List.findIdx?_map, ← e]
    congr
    funext p
    exact p.eqF q
  simp only [mTIndex, if_pos (And.intro q.flat (pgs_flat ps)), f]
theorem join3 {ds : List D} (hl : ds.length ≤ 6) (j : Nat) (p : D) (h : DH) : (oAdd (.tup (ds.take j)) (.tup [p]) h).bind (fun x h1 => oAdd x (.tup (ds.drop (j + 1))) h1) = .ok (.tup (ds.take j ++ p :: ds.drop (j + 1))) h := by
  have l1 : (ds.take j).length ≤ 6 := by rw [List.length_take]; omega
  have l2 : (ds.drop (j + 1)).length ≤ 6 := by rw [List.length_drop]; omega
  rw [oAdd_tup (by rw [List.length_singleton]; omega), Res.bind_ok, oAdd_tup (by rw [List.length_append, List.length_singleton]; omega), List.append_assoc]
  rfl
theorem cut_next (ds : List D) (j : Nat) : DL.cutD ds (some ((j : Int) + 1)) none = ds.drop (j + 1) := by
  have := cut_from (ds := ds) (j + 1)
  rw [show (((j + 1 : Nat)) : Int) = (j : Int) + 1 by omega] at this
  exact this
def Sh.put (s : Sh) (k : Nat) : Sh := ⟨s.keys, s.rows, s.fails, s.cuts, some k⟩
theorem Sh.put_ok {s : Sh} {np : Nat} (ok : s.ok np) {k : Nat} (hk : k < s.keys) : (s.put k).ok np := ⟨ok.keys, ok.many, ok.pages, ok.rows, ok.once, ok.fails, ok.cuts, fun j e => by cases e; exact hk⟩

section
variable {P : Program} {w : World} {K : PySem.W.Frag} {mg : Str → Option Value} {base : Heap}
theorem ini_NoStand (T : Txt K mg) {f : Addr} {fd : FuncData} (F : Fun K "__init__" "NoStand.__init__" s_NoStand f fd) : FnOk P w K mg base (L2.CX P w) 1 f fd ["self", "part"] (spI K "part") :=
  init_ok (t := "no stand") F sc_NoStand rfl fun cdv A outer s H E => pss_cons (ps_expr (pe_binit rfl T.bi_SpentError (pa_cons (pe_var rfl (.inl rfl)) (pa_cons pe_str pa_nil)))) (pss_one (ps_ost (pe_var rfl (.inl rfl)) (pe_var rfl (.inl rfl))))
theorem err_NoStand (A : All K mg) : ErrF P w K mg base "NoStand" "part" := errF_of A.ei_NoStand fun f fd F => ini_NoStand A.T F
/-! ### is_integer -/
noncomputable def F_is_integer : Fn := dDef 1 1 (dRet (dAndV (dIs .int (dVar 0)) (dNotV (dIs .bl (dVar 0)))))
theorem ok_is_integer (T : Txt K mg)  {f : Addr} {fd : FuncData} (F : Fun K "is_integer" "is_integer" s_is_integer f fd) : FnOk P w K mg base (L2.CX P w) 1 f fd ["thing"] (spD K mg F_is_integer) := by
  refine fn_ok F sc_is_integer (fun cdv A outer s H E hr => ?_)
  have nd := sc_is_integer.nd
  have hp := passes_of (X := cxOf (L2.CX P w) P w K mg base ["thing"] "is_integer" (defScope s_is_integer) f cdv A outer s H E) (K := fun e s'' => L2.CX P w outer H s E e s'') rfl
  have tk := takes_of (X := cxOf (L2.CX P w) P w K mg base ["thing"] "is_integer" (defScope s_is_integer) f cdv A outer s H E) (E := E) rfl rfl rfl rfl
  exact (dss_one (ds_ret (de_and (de_is .int (by decide) T.n_isinstance T.n_int (de_var 0)) (de_one (de_not (de_is .bl (by decide) T.n_isinstance T.n_bool (de_var 0)))))))
noncomputable def G_is_integer : Fn := trimF F_is_integer
theorem eq_is_integer (p : Pg) (h : DH) : G_is_integer [p.d] h = .ok (.bl p.isK) h := by
  refine trim_same ?_
  cases p <;> simp [F_is_integer, Pg.d, Pg.isK]
theorem is_integer_int (x : Int) (h : DH) : G_is_integer [.int x] h = .ok (.bl true) h := trim_same (by simp [F_is_integer])
/-! ### the checks at any value -/
noncomputable def cB (p : Prop) : Bool := @decide p (Classical.propDecidable p)
theorem cB_iff {p : Prop} : cB p = true ↔ p := @decide_eq_true_iff p (Classical.propDecidable p)
theorem cB_of {p : Prop} (h : p) : cB p = true := cB_iff.mpr h
theorem cB_not {p : Prop} (h : ¬ p) : cB p = false := by
  cases e : cB p with
  | false => rfl
  | true => exact absurd (cB_iff.mp e) h
theorem cB_eq {p : Prop} {b : Bool} (h : p ↔ b = true) : cB p = b := by
  rw [Bool.eq_iff_iff, cB_iff]; exact h
/-- a value that isinstance can be asked about, and so its items, n levels deep -/
def OkN (h : DH) : Nat → D → Prop
  | 0, x => OkD h x
  | n + 1, x => OkD h x ∧ ∀ l, x = .tup l → l.length ≤ 100 ∧ ∀ d ∈ l, OkN h n d
theorem OkN.ok {h : DH} : ∀ {n : Nat} {x : D}, OkN h n x → OkD h x
  | 0, _, o => o
  | _ + 1, _, o => o.1
theorem OkN.ext {h g : DH} : ∀ {n : Nat} {x : D}, OkN h n x → OkN (h ++ g) n x
  | 0, _, o => OkD.ext o
  | _ + 1, _, o => ⟨o.1.ext, fun l e => ⟨(o.2 l e).1, fun d hd => ((o.2 l e).2 d hd).ext⟩⟩
theorem any_integer {x : D} {h : DH} (o : OkD h x) : G_is_integer [x] h = .ok (.bl (isI x)) h := by
  refine trim_same ?_
  cases x with
  | ref n => rcases o.ty with z | z <;> simp -implicitDefEqProofs [F_is_integer, z, isI]
  | rol _ => cases o
  | exn0 _ _ => cases o
  | exn1 _ _ _ _ _ => cases o
  | _ => simp -implicitDefEqProofs [F_is_integer, isI]
theorem has_is_integer (A : All K mg) : Has P w K mg base 1 "is_integer" ["thing"] G_is_integer := Has.trim (has_of A.e_is_integer fun f fd F => ok_is_integer A.T  F) (trimF_ok F_is_integer)
/-! ### in_range -/
noncomputable def F_in_range : Fn := dDef 3 3 (dRet (dAndV (dCall G_is_integer (dCons (dVar 0) dNil)) (dChain oLe oLe (dVar 1) (dVar 0) (dVar 2))))
theorem ok_in_range (T : Txt K mg) (h_is_integer : Has P w K mg base 1 "is_integer" ["thing"] G_is_integer) {f : Addr} {fd : FuncData} (F : Fun K "in_range" "in_range" s_in_range f fd) : FnOk P w K mg base (L2.CX P w) 2 f fd ["thing", "low", "high"] (spD K mg F_in_range) := by
  refine fn_ok F sc_in_range (fun cdv A outer s H E hr => ?_)
  have nd := sc_in_range.nd
  have hp := passes_of (X := cxOf (L2.CX P w) P w K mg base ["thing", "low", "high"] "in_range" (defScope s_in_range) f cdv A outer s H E) (K := fun e s'' => L2.CX P w outer H s E e s'') rfl
  have tk := takes_of (X := cxOf (L2.CX P w) P w K mg base ["thing", "low", "high"] "in_range" (defScope s_in_range) f cdv A outer s H E) (E := E) rfl rfl rfl rfl
  exact (dss_one (ds_ret (de_and (de_has h_is_integer hr (by decide) tk (da_cons (de_var 0) da_nil)) (de_one (de_chain op_le op_le os_ord os_ord (de_var 1) (de_var 0) (de_var 2))))))
noncomputable def G_in_range : Fn := trimF F_in_range
theorem eq_in_range (x lo hi : Int) (h : DH) : G_in_range [.int x, .int lo, .int hi] h = .ok (.bl (decide (lo ≤ x) && decide (x ≤ hi))) h := by
  refine trim_same ?_
  by_cases c : lo ≤ x
  · simp -implicitDefEqProofs [F_in_range, is_integer_int, c]
  · simp -implicitDefEqProofs [F_in_range, is_integer_int, c]
theorem any_range {x : D} {h : DH} (o : OkD h x) (lo hi : Int) : G_in_range [x, .int lo, .int hi] h = .ok (.bl (numB lo hi x)) h := by
  refine trim_same ?_
  have e := any_integer o
  cases x with
  | int b => by_cases c : lo ≤ b <;> simp -implicitDefEqProofs [F_in_range, e, isI, numB, c]
  | _ => simp -implicitDefEqProofs [F_in_range, e, isI, numB]
theorem has_in_range (A : All K mg) : Has P w K mg base 2 "in_range" ["thing", "low", "high"] G_in_range := Has.trim (has_of A.e_in_range fun f fd F => ok_in_range A.T (has_is_integer A) F) (trimF_ok F_in_range)
/-! ### is_left -/
noncomputable def F_is_left : Fn := dDef 1 1 (dSeq (dIf (dTru (dIs .str (dVar 0))) (dRet (dBin oEq (dVar 0) (dC (D.str "ever")))) dSkip) (dRet (dCall G_in_range (dCons (dVar 0) (dCons (dC (D.int 0)) (dCons (dC (D.int 99)) dNil))))))
theorem ok_is_left (T : Txt K mg) (h_in_range : Has P w K mg base 2 "in_range" ["thing", "low", "high"] G_in_range) {f : Addr} {fd : FuncData} (F : Fun K "is_left" "is_left" s_is_left f fd) : FnOk P w K mg base (L2.CX P w) 3 f fd ["thing"] (spD K mg F_is_left) := by
  refine fn_ok F sc_is_left (fun cdv A outer s H E hr => ?_)
  have nd := sc_is_left.nd
  have hp := passes_of (X := cxOf (L2.CX P w) P w K mg base ["thing"] "is_left" (defScope s_is_left) f cdv A outer s H E) (K := fun e s'' => L2.CX P w outer H s E e s'') rfl
  have tk := takes_of (X := cxOf (L2.CX P w) P w K mg base ["thing"] "is_left" (defScope s_is_left) f cdv A outer s H E) (E := E) rfl rfl rfl rfl
  exact (dss_cons (ds_if (dt_tru (de_is .str (by decide) T.n_isinstance T.n_str (de_var 0))) (dss_one (ds_ret (de_cmp (op_eqX hr.units) os_eq (de_var 0) de_str))) dss_nil) (dss_one (ds_ret (de_has h_in_range hr (by decide) tk (da_cons (de_var 0) (da_cons de_int (da_cons (de_glob (d := (D.int 99)) rfl T.c_MOST_LEFT.choose_spec ⟨_, rfl⟩) da_nil)))))))
noncomputable def G_is_left : Fn := trimF F_is_left
theorem eq_is_left {l : Lf} (h : DH) (h1 : l ≠ .bad) (h2 : ∀ n, l = .num n → n ≤ 99) : G_is_left [l.d] h = .ok (.bl true) h := by
  refine trim_same ?_
  cases l with
  | bad => exact absurd rfl h1
  | ever => simp [F_is_left, Lf.d]
  | num n =>
    have := h2 n rfl
    have a : (0 : Int) ≤ n := by omega
    have b : (n : Int) ≤ 99 := by omega
    simp [F_is_left, Lf.d, eq_in_range, a, b]
def LeftP (x : D) : Prop := ∃ l : Lf, l ≠ .bad ∧ x = l.d ∧ ∀ n, l = .num n → n ≤ 99
theorem leftP_num {x : D} : (∀ s, x ≠ .str s) → (LeftP x ↔ numB 0 99 x = true) := by
  intro ns
  constructor
  · rintro ⟨l, h1, rfl, h3⟩
    cases l with
    | bad => exact absurd rfl h1
    | ever => exact absurd rfl (ns _)
    | num n =>
      have := h3 n rfl
      simp only [Lf.d, numB, Bool.and_eq_true, decide_eq_true_eq]
      omega
  · intro h
    obtain ⟨b, rfl, h1, h2⟩ := numB_int h
    obtain ⟨n, rfl⟩ : ∃ n : Nat, b = (n : Int) := ⟨b.toNat, by omega⟩
    exact ⟨.num n, by simp, rfl, fun m e => by cases e; omega⟩
theorem leftP_str {s : Str} : LeftP (.str s) ↔ s = "ever" := by
  constructor
  · rintro ⟨l, h1, h2, h3⟩
    cases l with
    | bad => exact absurd rfl h1
    | ever => injection h2
    | num n => cases h2
  · rintro rfl
    exact ⟨.ever, by simp, rfl, fun m e => by cases e⟩
theorem any_left {x : D} {h : DH} (o : OkD h x) : G_is_left [x] h = .ok (.bl (cB (LeftP x))) h := by
  refine trim_same ?_
  have e := any_range o 0 99
  cases x with
  | str s =>
    have c : cB (LeftP (.str s)) = decide (s = "ever") := cB_eq (by rw [leftP_str, decide_eq_true_iff])
    rw [c]
    simp -implicitDefEqProofs [F_is_left]
  | rol _ => cases o
  | exn0 _ _ => cases o
  | exn1 _ _ _ _ _ => cases o
  | ref n =>
    have c := cB_eq (leftP_num (x := .ref n) (fun _ z => by cases z))
    rw [c]
    rcases o.ty with z | z <;> simp -implicitDefEqProofs [F_is_left, z, e, TN.has]
  | int b =>
    have c := cB_eq (leftP_num (x := .int b) (fun _ z => by cases z))
    rw [c]
    simp -implicitDefEqProofs [F_is_left, e]
  | bl b =>
    have c := cB_eq (leftP_num (x := .bl b) (fun _ z => by cases z))
    rw [c]
    simp -implicitDefEqProofs [F_is_left, e]
  | non =>
    have c := cB_eq (leftP_num (x := .non) (fun _ z => by cases z))
    rw [c]
    simp -implicitDefEqProofs [F_is_left, e]
  | tup l =>
    have c := cB_eq (leftP_num (x := .tup l) (fun _ z => by cases z))
    rw [c]
    simp -implicitDefEqProofs [F_is_left, e]
theorem has_is_left (A : All K mg) : Has P w K mg base 3 "is_left" ["thing"] G_is_left := Has.trim (has_of A.e_is_left fun f fd F => ok_is_left A.T (has_in_range A) F) (trimF_ok F_is_left)
/-! ### is_page -/
noncomputable def F_is_page : Fn := dDef 2 2 (dSeq (dIf (dTru (dIs .str (dVar 0))) (dRet (dOrV (dBin oEq (dVar 0) (dC (D.str "free"))) (dBin oEq (dVar 0) (dC (D.str "old"))))) dSkip) (dRet (dCall G_in_range (dCons (dVar 0) (dCons (dC (D.int 0)) (dCons (dBin oSub (dVar 1) (dC (D.int 1))) dNil))))))
theorem ok_is_page (T : Txt K mg) (h_in_range : Has P w K mg base 2 "in_range" ["thing", "low", "high"] G_in_range) {f : Addr} {fd : FuncData} (F : Fun K "is_page" "is_page" s_is_page f fd) : FnOk P w K mg base (L2.CX P w) 3 f fd ["thing", "keys"] (spD K mg F_is_page) := by
  refine fn_ok F sc_is_page (fun cdv A outer s H E hr => ?_)
  have nd := sc_is_page.nd
  have hp := passes_of (X := cxOf (L2.CX P w) P w K mg base ["thing", "keys"] "is_page" (defScope s_is_page) f cdv A outer s H E) (K := fun e s'' => L2.CX P w outer H s E e s'') rfl
  have tk := takes_of (X := cxOf (L2.CX P w) P w K mg base ["thing", "keys"] "is_page" (defScope s_is_page) f cdv A outer s H E) (E := E) rfl rfl rfl rfl
  exact (dss_cons (ds_if (dt_tru (de_is .str (by decide) T.n_isinstance T.n_str (de_var 0))) (dss_one (ds_ret (de_or (de_cmp (op_eqX hr.units) os_eq (de_var 0) de_str) (de_one (de_cmp (op_eqX hr.units) os_eq (de_var 0) de_str))))) dss_nil) (dss_one (ds_ret (de_has h_in_range hr (by decide) tk (da_cons (de_var 0) (da_cons de_int (da_cons (de_op op_sub os_sub (de_var 1) de_int) da_nil)))))))
noncomputable def G_is_page : Fn := trimF F_is_page
theorem eq_is_page {p : Pg} {keys : Nat} (h : DH) (hp : p.lt keys) : G_is_page [p.d, .int (keys : Int)] h = .ok (.bl true) h := by
  refine trim_same ?_
  cases p with
  | free => simp [F_is_page, Pg.d]
  | old => simp [F_is_page, Pg.d]
  | key k =>
    have hk : k < keys := hp
    have a : (0 : Int) ≤ k := by omega
    have b : (k : Int) ≤ (keys : Int) - 1 := by omega
    simp [F_is_page, Pg.d, eq_in_range, a, b]
def PageP (keys : Nat) (x : D) : Prop := ∃ p : Pg, x = p.d ∧ p.lt keys
theorem pageP_num {keys : Nat} {x : D} : (∀ s, x ≠ .str s) → (PageP keys x ↔ numB 0 ((keys : Int) - 1) x = true) := by
  intro ns
  constructor
  · rintro ⟨p, rfl, h3⟩
    cases p with
    | free => exact absurd rfl (ns _)
    | old => exact absurd rfl (ns _)
    | key n =>
      have : n < keys := h3
      simp only [Pg.d, numB, Bool.and_eq_true, decide_eq_true_eq]
      omega
  · intro h
    obtain ⟨b, rfl, h1, h2⟩ := numB_int h
    obtain ⟨n, rfl⟩ : ∃ n : Nat, b = (n : Int) := ⟨b.toNat, by omega⟩
    exact ⟨.key n, rfl, show n < keys by omega⟩
theorem pageP_str {keys : Nat} {s : Str} : PageP keys (.str s) ↔ s = "free" ∨ s = "old" := by
  constructor
  · rintro ⟨p, h2, h3⟩
    cases p with
    | free => injection h2 with h2; exact .inl h2
    | old => injection h2 with h2; exact .inr h2
    | key n => cases h2
  · rintro (rfl | rfl)
    · exact ⟨.free, rfl, trivial⟩
    · exact ⟨.old, rfl, trivial⟩
theorem any_page {x : D} {h : DH} (o : OkD h x) (keys : Nat) : G_is_page [x, .int (keys : Int)] h = .ok (.bl (cB (PageP keys x))) h := by
  refine trim_same ?_
  have e := any_range o 0 ((keys : Int) - 1)
  cases x with
  | str s =>
    have c : cB (PageP keys (.str s)) = (decide (s = "free") || decide (s = "old")) := cB_eq (by rw [pageP_str, Bool.or_eq_true, decide_eq_true_iff, decide_eq_true_iff])
    rw [c]
    by_cases z : s = "free"
    · simp -implicitDefEqProofs [F_is_page, z]
    · simp -implicitDefEqProofs [F_is_page, z]
  | rol _ => cases o
  | exn0 _ _ => cases o
  | exn1 _ _ _ _ _ => cases o
  | ref n =>
    have c := cB_eq (pageP_num (keys := keys) (x := .ref n) (fun _ z => by cases z))
    rw [c]
    rcases o.ty with z | z <;> simp -implicitDefEqProofs [F_is_page, z, e, TN.has]
  | int b =>
    have c := cB_eq (pageP_num (keys := keys) (x := .int b) (fun _ z => by cases z))
    rw [c]
    simp -implicitDefEqProofs [F_is_page, e]
  | bl b =>
    have c := cB_eq (pageP_num (keys := keys) (x := .bl b) (fun _ z => by cases z))
    rw [c]
    simp -implicitDefEqProofs [F_is_page, e]
  | non =>
    have c := cB_eq (pageP_num (keys := keys) (x := .non) (fun _ z => by cases z))
    rw [c]
    simp -implicitDefEqProofs [F_is_page, e]
  | tup l =>
    have c := cB_eq (pageP_num (keys := keys) (x := .tup l) (fun _ z => by cases z))
    rw [c]
    simp -implicitDefEqProofs [F_is_page, e]
theorem has_is_page (A : All K mg) : Has P w K mg base 3 "is_page" ["thing", "keys"] G_is_page := Has.trim (has_of A.e_is_page fun f fd F => ok_is_page A.T (has_in_range A) F) (trimF_ok F_is_page)
/-! ### are_pages -/
noncomputable def B_are_pages_1 : FS := (dSeq (dIf (dNotT (dTru (dCall G_is_page (dCons (dVar 3) (dCons (dVar 1) dNil))))) (dRet (dC (D.bl false))) dSkip) (dIf (dTest (dBin oEq (dVar 3) (dC (D.str "free")))) (dSet 2 (dC (D.bl true))) (dIf (dTru (dVar 2)) (dRet (dC (D.bl false))) dSkip)))
noncomputable def F_are_pages : Fn := dDef 2 4 (dSeq (dIf (dOrT (dNotT (dTru (dIs .tup (dVar 0)))) (dNotT (dTest (dChain oLe oLe (dC (D.int 1)) (dCB bLen (dCons (dVar 0) dNil)) (dC (D.int 6)))))) (dRet (dC (D.bl false))) dSkip) (dSeq (dSet 2 (dC (D.bl false))) (dSeq (dFor (dIter (dVar 0)) (gN 3) B_are_pages_1) (dRet (dC (D.bl true))))))
theorem ok_are_pages (T : Txt K mg) (h_is_page : Has P w K mg base 3 "is_page" ["thing", "keys"] G_is_page) {f : Addr} {fd : FuncData} (F : Fun K "are_pages" "are_pages" s_are_pages f fd) : FnOk P w K mg base (L2.CX P w) 4 f fd ["thing", "keys"] (spD K mg F_are_pages) := by
  refine fn_ok F sc_are_pages (fun cdv A outer s H E hr => ?_)
  have nd := sc_are_pages.nd
  have hp := passes_of (X := cxOf (L2.CX P w) P w K mg base ["thing", "keys", "free", "page"] "are_pages" (defScope s_are_pages) f cdv A outer s H E) (K := fun e s'' => L2.CX P w outer H s E e s'') rfl
  have tk := takes_of (X := cxOf (L2.CX P w) P w K mg base ["thing", "keys", "free", "page"] "are_pages" (defScope s_are_pages) f cdv A outer s H E) (E := E) rfl rfl rfl rfl
  exact (dss_cons (ds_if (PW.pt (dw_or (dt_not (dt_tru (de_is .tup (by decide) T.n_isinstance T.n_tuple (de_var 0)))) (dw_or1 (dt_not (dt_chain op_le op_le os_ord os_ord de_int (de_callB call_len cs_len T.n_len (da_cons (de_var 0) da_nil)) (de_glob (d := (D.int 6)) rfl T.c_MOST_PAGES.choose_spec ⟨_, rfl⟩)))))) (dss_one (ds_ret de_bl)) dss_nil) (dss_cons (ds_set 2 nd de_bl) (dss_cons (ds_for hp rfl (di_any (de_var 0)) (dg_name 3 nd) (dss_cons (ds_if (dt_not (dt_tru (de_has h_is_page hr (by decide) tk (da_cons (de_var 3) (da_cons (de_var 1) da_nil))))) (dss_one (ds_ret de_bl)) dss_nil) (dss_one (ds_if (dt_cmp (op_eqX hr.units) os_eq (de_var 3) de_str) (dss_one (ds_set 2 nd de_bl)) (dss_one (ds_if (dt_tru (de_var 2)) (dss_one (ds_ret de_bl)) dss_nil)))))) (dss_one (ds_ret de_bl)))))
noncomputable def G_are_pages : Fn := trimF F_are_pages
theorem eq_are_pages {ps : List Pg} {keys : Nat} (h : DH) (hl : 1 ≤ ps.length ∧ ps.length ≤ 6) (hp : ∀ p ∈ ps, p.lt keys) (ht : Tail ps) : G_are_pages [.tup (ps.map Pg.d), .int (keys : Int)] h = .ok (.bl true) h := by
  refine trim_same ?_
  obtain ⟨a', e⟩ := for_ix (keep := fun _ => True) (gg := gN 3) (b := B_are_pages_1) (ds := ps.map Pg.d) (fun i (o : Option D) => [some (.tup (ps.map Pg.d)), some (.int (keys : Int)), some (.bl (decide (.free ∈ ps.take i))), o]) (fun _ => h) (fun _ _ => trivial) (fun i d o hd => by
    obtain ⟨p, hi, rfl⟩ := map_at hd
    refine ⟨_, rfl, some p.d, .inl ?_⟩
    have ip := eq_is_page (keys := keys) h (hp p (List.mem_of_getElem? hi))
    have tk : ps.take (i + 1) = ps.take i ++ [p] := take_next hi
    by_cases pf : p = .free
    · subst pf
      simp -implicitDefEqProofs [B_are_pages_1, ip, oEq_free, tk]
    · have nf : Pg.free ∉ ps.take i := fun m => by
        obtain ⟨j, hj, e⟩ := List.getElem_of_mem m
        have hj' : j < i := by rw [List.length_take] at hj; omega
        have e' : ps[j]? = some .free := by
          rw [← List.getElem?_take_of_lt hj', List.getElem?_eq_getElem hj, e]
        exact pf (ht j i hj' e' p hi)
      have pf' : ¬ Pg.free = p := fun z => pf z.symm
      simp -implicitDefEqProofs [B_are_pages_1, ip, oEq_free, tk, pf, pf', nf]) none
  simp only [List.take_zero, List.not_mem_nil, decide_false] at e
  have l1 : (1 : Int) ≤ ps.length := by omega
  have l2 : (ps.length : Int) ≤ 6 := by omega
  simp -implicitDefEqProofs [F_are_pages, l1, l2, e]
theorem tail_snoc {ps : List Pg} {p : Pg} : Tail (ps ++ [p]) ↔ Tail ps ∧ (Pg.free ∈ ps → p = .free) := by
  constructor
  · intro t
    refine ⟨fun i j ij hi q hj => t i j ij (by rw [List.getElem?_append_left (List.getElem?_eq_some_iff.mp hi).1]; exact hi) q (by rw [List.getElem?_append_left (List.getElem?_eq_some_iff.mp hj).1]; exact hj), fun m => ?_⟩
    obtain ⟨i, il, e⟩ := List.getElem_of_mem m
    exact t i ps.length il (by rw [List.getElem?_append_left il, List.getElem?_eq_getElem il, e]) p (by rw [List.getElem?_append_right (Nat.le_refl _), Nat.sub_self]; rfl)
  · rintro ⟨t, f⟩ i j ij hi q hj
    have jl := (List.getElem?_eq_some_iff.mp hj).1
    rw [List.length_append, List.length_singleton] at jl
    have il : i < ps.length := by omega
    rw [List.getElem?_append_left il] at hi
    by_cases z : j < ps.length
    · rw [List.getElem?_append_left z] at hj
      exact t i j ij hi q hj
    · have : j = ps.length := by omega
      subst this
      rw [List.getElem?_append_right (Nat.le_refl _), Nat.sub_self] at hj
      cases hj
      exact f (List.mem_of_getElem? hi)
/-- pages of which none is wrong -/
def PgsP (keys : Nat) (ds : List D) (ps : List Pg) : Prop := ds = ps.map Pg.d ∧ (∀ p ∈ ps, p.lt keys) ∧ Tail ps
def PagesP (keys : Nat) (x : D) : Prop := ∃ ps, x = .tup (ps.map Pg.d) ∧ (1 ≤ ps.length ∧ ps.length ≤ 6) ∧ (∀ p ∈ ps, p.lt keys) ∧ Tail ps
theorem pgs_snoc {keys : Nat} {ds : List D} {ps : List Pg} {p : Pg} (h : PgsP keys ds ps) (hp : p.lt keys) (hf : Pg.free ∈ ps → p = .free) : PgsP keys (ds ++ [p.d]) (ps ++ [p]) :=
  ⟨by rw [h.1, List.map_append]; rfl, fun q hq => by
    rcases List.mem_append.mp hq with hq | hq
    · exact h.2.1 q hq
    · rw [List.mem_singleton.mp hq]; exact hp, tail_snoc.mpr ⟨h.2.2, hf⟩⟩
theorem pgs_pre {keys : Nat} {ds : List D} {ps : List Pg} (h : PgsP keys ds ps) (i : Nat) : PgsP keys (ds.take i) (ps.take i) :=
  ⟨by rw [h.1, List.map_take], fun p hp => h.2.1 p (List.mem_of_mem_take hp), fun a b ab ha q hb => by
    have al : a < i := by
      have := (List.getElem?_eq_some_iff.mp ha).1
      rw [List.length_take] at this
      omega
    have bl : b < i := by
      have := (List.getElem?_eq_some_iff.mp hb).1
      rw [List.length_take] at this
      omega
    rw [List.getElem?_take_of_lt al] at ha
    rw [List.getElem?_take_of_lt bl] at hb
    exact h.2.2 a b ab ha q hb⟩
theorem pg_map_inj {a b : List Pg} (h : a.map Pg.d = b.map Pg.d) : a = b := (List.map_inj_right fun {a b} z => Pg.d_inj z).mp h
theorem any_pages {x : D} {h : DH} (o : OkN h 1 x) (keys : Nat) : G_are_pages [x, .int (keys : Int)] h = .ok (.bl (cB (PagesP keys x))) h := by
  refine trim_same ?_
  cases x with
  | tup ds =>
    obtain ⟨_, od⟩ := o.2 ds rfl
    by_cases len : 1 ≤ ds.length ∧ ds.length ≤ 6
    · have key := for_at (keep := fun _ => True) (gg := gN 3) (b := B_are_pages_1) (ds := ds) (fun i σ h' => h' = h ∧ ∃ ps a, PgsP keys (ds.take i) ps ∧ σ = [some (.tup ds), some (.int (keys : Int)), some (.bl (decide (Pg.free ∈ ps))), a])
        (fun r => (∃ ps σ, PgsP keys ds ps ∧ r = .nx σ h) ∨ ((¬ ∃ ps, PgsP keys ds ps) ∧ r = .rt (.bl false) h))
        (fun σ h' ⟨e, ps, a, pp, es⟩ => ⟨trivial, .inl ⟨ps, σ, by rwa [List.take_length] at pp, by rw [e]⟩⟩)
        (fun i d σ h' hd ⟨eh, ps, a, pp, es⟩ => by
          subst eh es
          have ip := any_page (od d (List.mem_of_getElem? hd)) keys
          have nx := take_next hd
          refine ⟨trivial, _, rfl, ?_⟩
          by_cases c : PageP keys d
          · rw [cB_of c] at ip
            obtain ⟨p, rfl, pl⟩ := c
            by_cases pf : p = .free
            · subst pf
              refine .inl ⟨[some (.tup ds), some (.int (keys : Int)), some (.bl true), some Pg.free.d], h', .inl ?_, rfl, ps ++ [.free], some Pg.free.d, by rw [nx]; exact pgs_snoc pp pl fun _ => rfl, by simp⟩
              simp -implicitDefEqProofs [B_are_pages_1, ip, oEq_free]
            · have pf' : ¬ Pg.free = p := fun z => pf z.symm
              by_cases fr : Pg.free ∈ ps
              · refine .inr (.inl ⟨.bl false, h', ?_, .inr ⟨fun ⟨qs, hq⟩ => ?_, rfl⟩⟩)
                · simp -implicitDefEqProofs [B_are_pages_1, ip, oEq_free, pf, pf', fr]
                · have h1 := (pgs_pre hq (i + 1)).1
                  have h2 := (pgs_pre hq i).1
                  rw [nx, h2] at h1
                  have pe : ps = qs.take i := pg_map_inj (by rw [← pp.1, h2])
                  have il := (List.getElem?_eq_some_iff.mp hd).1
                  have ql : i < qs.length := by have := congrArg List.length hq.1; rw [List.length_map] at this; omega
                  obtain ⟨q, hqi⟩ : ∃ q, qs[i]? = some q := ⟨_, List.getElem?_eq_getElem ql⟩
                  have qd : q = p := Pg.d_inj (by
                    have := congrArg (·[i]?) hq.1
                    simp only [hd, List.getElem?_map, hqi, Option.map_some, Option.some.injEq] at this
                    exact this.symm)
                  rw [pe] at fr
                  obtain ⟨j, jl, je⟩ := List.getElem_of_mem fr
                  rw [List.length_take] at jl
                  exact pf (hq.2.2 j i (by omega) (by rw [← List.getElem?_take_of_lt (show j < i by omega), List.getElem?_eq_getElem (by rw [List.length_take]; omega), je]) p (by rw [hqi, qd]))
              · refine .inl ⟨[some (.tup ds), some (.int (keys : Int)), some (.bl false), some p.d], h', .inl ?_, rfl, ps ++ [p], some p.d, by rw [nx]; exact pgs_snoc pp pl fun z => absurd z fr, ?_⟩
                · simp -implicitDefEqProofs [B_are_pages_1, ip, oEq_free, pf, pf', fr]
                · simp [fr, pf']
          · rw [cB_not c] at ip
            refine .inr (.inl ⟨.bl false, h', ?_, .inr ⟨fun ⟨qs, hq⟩ => ?_, rfl⟩⟩)
            · simp -implicitDefEqProofs [B_are_pages_1, ip]
            · rw [hq.1] at hd
              obtain ⟨q, hqi, rfl⟩ := map_at hd
              exact c ⟨q, rfl, hq.2.1 q (List.mem_of_getElem? hqi)⟩)
        [some (.tup ds), some (.int (keys : Int)), some (.bl false), none] h ⟨rfl, [], none, ⟨rfl, (fun _ h => by cases h), fun i j _ hi => by cases hi⟩, rfl⟩
      have l1 : (1 : Int) ≤ ds.length := by omega
      have l2 : (ds.length : Int) ≤ 6 := by omega
      rcases key with ⟨ps, σ, pp, e⟩ | ⟨no, e⟩
      · have c : PagesP keys (.tup ds) := ⟨ps, by rw [pp.1], by have := congrArg List.length pp.1; rw [List.length_map] at this; omega, pp.2.1, pp.2.2⟩
        rw [cB_of c]
        simp -implicitDefEqProofs [F_are_pages, l1, l2, e]
      · have c : ¬ PagesP keys (.tup ds) := fun ⟨ps, h1, _, h3, h4⟩ => no ⟨ps, by injection h1, h3, h4⟩
        rw [cB_not c]
        simp -implicitDefEqProofs [F_are_pages, l1, l2, e]
    · have c : ¬ PagesP keys (.tup ds) := fun ⟨ps, h1, h2, _⟩ => len (by injection h1 with h1; rw [h1, List.length_map]; exact h2)
      rw [cB_not c]
      by_cases l1 : (1 : Int) ≤ ds.length
      · have l2 : ¬ (ds.length : Int) ≤ 6 := by omega
        simp -implicitDefEqProofs [F_are_pages, l1, l2]
      · simp -implicitDefEqProofs [F_are_pages, l1]
  | ref n =>
    have c : ¬ PagesP keys (.ref n) := fun ⟨ps, h1, _⟩ => by cases h1
    rw [cB_not c]
    have td : TN.tup.has .dic = some false := rfl
    rcases o.1.ty with z | z <;> simp -implicitDefEqProofs [F_are_pages, z, td]
  | rol _ => cases o.1
  | exn0 _ _ => cases o.1
  | exn1 _ _ _ _ _ => cases o.1
  | int b =>
    have c : ¬ PagesP keys (.int b) := fun ⟨ps, h1, _⟩ => by cases h1
    rw [cB_not c]
    simp -implicitDefEqProofs [F_are_pages]
  | bl b =>
    have c : ¬ PagesP keys (.bl b) := fun ⟨ps, h1, _⟩ => by cases h1
    rw [cB_not c]
    simp -implicitDefEqProofs [F_are_pages]
  | non =>
    have c : ¬ PagesP keys .non := fun ⟨ps, h1, _⟩ => by cases h1
    rw [cB_not c]
    simp -implicitDefEqProofs [F_are_pages]
  | str s =>
    have c : ¬ PagesP keys (.str s) := fun ⟨ps, h1, _⟩ => by cases h1
    rw [cB_not c]
    simp -implicitDefEqProofs [F_are_pages]
theorem has_are_pages (A : All K mg) : Has P w K mg base 4 "are_pages" ["thing", "keys"] G_are_pages := Has.trim (has_of A.e_are_pages fun f fd F => ok_are_pages A.T (has_is_page A) F) (trimF_ok F_are_pages)
/-! ### is_block -/
noncomputable def F_is_block : Fn := dDef 2 4 (dSeq (dIf (dOrT (dNotT (dTru (dIs .tup (dVar 0)))) (dTest (dBin oNe (dCB bLen (dCons (dVar 0) dNil)) (dC (D.int 2))))) (dRet (dC (D.bl false))) dSkip) (dSeq (dUnp (gT (gConsD (gN 2) (gConsD (gN 3) gNilD))) (dVar 0)) (dSeq (dIf (dNotT (dTru (dCall G_are_pages (dCons (dVar 3) (dCons (dVar 1) dNil))))) (dRet (dC (D.bl false))) dSkip) (dSeq (dIf (dTest (dBin oIsN (dVar 2) (dC D.non))) (dRet (dBin oNe (dBin oIx (dVar 3) (dUn oNeg (dC (D.int 1)))) (dC (D.str "free")))) dSkip) (dRet (dCall G_is_left (dCons (dVar 2) dNil)))))))
theorem ok_is_block (T : Txt K mg) (h_is_left : Has P w K mg base 3 "is_left" ["thing"] G_is_left) (h_are_pages : Has P w K mg base 4 "are_pages" ["thing", "keys"] G_are_pages) {f : Addr} {fd : FuncData} (F : Fun K "is_block" "is_block" s_is_block f fd) : FnOk P w K mg base (L2.CX P w) 5 f fd ["thing", "keys"] (spD K mg F_is_block) := by
  refine fn_ok F sc_is_block (fun cdv A outer s H E hr => ?_)
  have nd := sc_is_block.nd
  have hp := passes_of (X := cxOf (L2.CX P w) P w K mg base ["thing", "keys", "left", "pages"] "is_block" (defScope s_is_block) f cdv A outer s H E) (K := fun e s'' => L2.CX P w outer H s E e s'') rfl
  have tk := takes_of (X := cxOf (L2.CX P w) P w K mg base ["thing", "keys", "left", "pages"] "is_block" (defScope s_is_block) f cdv A outer s H E) (E := E) rfl rfl rfl rfl
  exact (dss_cons (ds_if (PW.pt (dw_or (dt_not (dt_tru (de_is .tup (by decide) T.n_isinstance T.n_tuple (de_var 0)))) (dw_or1 (dt_cmp (op_neX hr.units) os_ne (de_callB call_len cs_len T.n_len (da_cons (de_var 0) da_nil)) de_int)))) (dss_one (ds_ret de_bl)) dss_nil) (dss_cons (ds_unp (de_var 0) (dg_tup rfl (dgs_cons (dg_name 2 nd) (dgs_cons (dg_name 3 nd) dgs_nil)) (gl_cons (gl_cons gl_nil)))) (dss_cons (ds_if (dt_not (dt_tru (de_has h_are_pages hr (by decide) tk (da_cons (de_var 3) (da_cons (de_var 1) da_nil))))) (dss_one (ds_ret de_bl)) dss_nil) (dss_cons (ds_if (dt_cmp op_isX os_is (de_var 2) de_non) (dss_one (ds_ret (de_cmp (op_neX hr.units) os_ne (de_ix (hu_of hr) (de_var 3) (de_neg de_int)) de_str))) dss_nil) (dss_one (ds_ret (de_has h_is_left hr (by decide) tk (da_cons (de_var 2) da_nil))))))))
noncomputable def G_is_block : Fn := trimF F_is_block
theorem eq_is_block {b : Bk} {keys pages : Nat} (h : DH) (ok : b.ok keys pages) (hp : 1 ≤ pages ∧ pages ≤ 6) : G_is_block [b.d, .int (keys : Int)] h = .ok (.bl true) h := by
  refine trim_same ?_
  have ap := eq_are_pages h (by rw [ok.len]; exact hp) ok.lt ok.tail
  by_cases hb : b.left = .bad
  · have nf := ok.bad hb
    have ne : b.pgs ≠ [] := fun z => by have := ok.len; rw [z] at this; simp at this; omega
    obtain ⟨init, last, eq⟩ : ∃ init last, b.pgs = init ++ [last] := ⟨_, _, (List.dropLast_concat_getLast ne).symm⟩
    have lf : last ≠ .free := fun z => nf (by rw [eq, z]; simp)
    have ix : L2.atI (b.pgs.map Pg.d) (-1) = some last.d := by rw [eq, List.map_append]; exact atI_neg1
    simp -implicitDefEqProofs [F_is_block, Bk.d, Bk.pd, ap, hb, Lf.d, oIx_tupX, ix, oNe_free, lf]
  · have il := eq_is_left h hb ok.left
    simp -implicitDefEqProofs [F_is_block, Bk.d, Bk.pd, ap, Lf.isN, hb, il]
def nonB : D → Bool
  | .non => true
  | _ => false
theorem any_isN {x : D} {h : DH} (o : OkD h x) : oIsN x .non h = .ok (.bl (nonB x)) h := by
  cases x with
  | rol _ => cases o
  | exn0 _ _ => cases o
  | exn1 _ _ _ _ _ => cases o
  | _ => rfl
theorem any_notN {x : D} {h : DH} (o : OkD h x) : oNotN x .non h = .ok (.bl (!nonB x)) h := by
  cases x with
  | rol _ => cases o
  | exn0 _ _ => cases o
  | exn1 _ _ _ _ _ => cases o
  | _ => rfl
theorem nonB_iff {x : D} : nonB x = true ↔ x = .non := by cases x <;> simp [nonB]
def BlkP (keys : Nat) (x : D) : Prop := ∃ (b : Bk) (np : Nat), x = b.d ∧ b.ok keys np ∧ (1 ≤ np ∧ np ≤ 6)
theorem blkP_two {keys : Nat} {l p : D} (h : BlkP keys (.tup [l, p])) : PagesP keys p := by
  obtain ⟨b, np, e, ok, hp⟩ := h
  simp only [Bk.d, Bk.pd, D.tup.injEq, List.cons.injEq, and_true] at e
  exact ⟨b.pgs, e.2, by rw [ok.len]; exact hp, ok.lt, ok.tail⟩
theorem blkP_non {keys : Nat} {ps : List Pg} (hl : 1 ≤ ps.length ∧ ps.length ≤ 6) (lt : ∀ p ∈ ps, p.lt keys) (t : Tail ps) : BlkP keys (.tup [.non, .tup (ps.map Pg.d)]) ↔ ps.getLast? ≠ some .free := by
  constructor
  · rintro ⟨b, np, e, ok, hp⟩ z
    simp only [Bk.d, Bk.pd, D.tup.injEq, List.cons.injEq, and_true] at e
    obtain ⟨e1, e2⟩ := e
    have e2 := pg_map_inj e2
    have lb : b.left = .bad := by cases q : b.left <;> rw [q] at e1 <;> first | rfl | cases e1
    rw [e2] at z
    exact ok.bad lb (List.mem_of_getLast? z)
  · intro z
    refine ⟨⟨.bad, ps⟩, ps.length, rfl, ⟨rfl, lt, t, fun n e => (by cases e), fun _ m => ?_⟩, hl⟩
    have m : Pg.free ∈ ps := m
    obtain ⟨i, il, e⟩ := List.getElem_of_mem m
    have gl : ps.getLast? = some (ps[ps.length - 1]'(by omega)) := by rw [List.getLast?_eq_getElem?, List.getElem?_eq_getElem]
    by_cases q : i = ps.length - 1
    · subst q
      exact z (by rw [gl, e])
    · have := t i (ps.length - 1) (by omega) (by rw [List.getElem?_eq_getElem il, e]) _ (List.getElem?_eq_getElem (by omega))
      exact z (by rw [gl, this])
theorem blkP_left {keys : Nat} {l : D} {ps : List Pg} (hn : l ≠ .non) (hl : 1 ≤ ps.length ∧ ps.length ≤ 6) (lt : ∀ p ∈ ps, p.lt keys) (t : Tail ps) : BlkP keys (.tup [l, .tup (ps.map Pg.d)]) ↔ LeftP l := by
  constructor
  · rintro ⟨b, np, e, ok, hp⟩
    simp only [Bk.d, Bk.pd, D.tup.injEq, List.cons.injEq, and_true] at e
    obtain ⟨e1, e2⟩ := e
    exact ⟨b.left, fun z => hn (by rw [e1, z]; rfl), e1, ok.left⟩
  · rintro ⟨lf, h1, rfl, h3⟩
    exact ⟨⟨lf, ps⟩, ps.length, rfl, ⟨rfl, lt, t, h3, fun e => absurd e h1⟩, hl⟩
theorem any_block {x : D} {h : DH} (o : OkN h 2 x) (keys : Nat) : G_is_block [x, .int (keys : Int)] h = .ok (.bl (cB (BlkP keys x))) h := by
  refine trim_same ?_
  have nt : (∀ l, x ≠ .tup l) → ¬ BlkP keys x := fun n ⟨b, _, e, _⟩ => n _ e
  cases x with
  | tup ds =>
    obtain ⟨_, od⟩ := o.2 ds rfl
    match ds, od with
    | [], _ =>
      rw [cB_not (fun ⟨b, _, e, _⟩ => by cases e)]
      simp -implicitDefEqProofs [F_is_block]
    | [_], _ =>
      rw [cB_not (fun ⟨b, _, e, _⟩ => by cases e)]
      simp -implicitDefEqProofs [F_is_block]
    | _ :: _ :: _ :: t, _ =>
      rw [cB_not (fun ⟨b, _, e, _⟩ => by cases e)]
      have c : ¬ (t.length : Int) + 1 + 1 + 1 = 2 := by omega
      simp -implicitDefEqProofs [F_is_block, c]
    | [l, p], od =>
      have ol := (od l (by simp)).ok
      have ap := any_pages (od p (by simp)) keys
      by_cases c : PagesP keys p
      · rw [cB_of c] at ap
        obtain ⟨ps, rfl, hl, lt, t⟩ := c
        have is := any_isN ol
        by_cases ln : l = .non
        · subst ln
          have e := blkP_non hl lt t
          have gl : ps.getLast? = some (ps[ps.length - 1]'(by omega)) := by rw [List.getLast?_eq_getElem?, List.getElem?_eq_getElem]
          obtain ⟨last, hlast⟩ : ∃ p, p = ps[ps.length - 1]'(by omega) := ⟨_, rfl⟩
          rw [← hlast] at gl
          obtain ⟨init, eq⟩ : ∃ init, ps = init ++ [last] := by
            rw [List.getLast?_eq_some_iff] at gl
            exact gl
          have ix : L2.atI (ps.map Pg.d) (-1) = some last.d := by rw [eq, List.map_append]; exact atI_neg1
          have cc : cB (BlkP keys (.tup [.non, .tup (ps.map Pg.d)])) = !decide (last = .free) := cB_eq (by rw [e, gl]; simp)
          rw [cc]
          simp -implicitDefEqProofs [F_is_block, ap, oIx_tupX, ix, oNe_free]
        · have e := blkP_left ln hl lt t
          have al := any_left ol
          have nb : nonB l = false := by
            cases q : nonB l with
            | false => rfl
            | true => exact absurd (nonB_iff.mp q) ln
          rw [nb] at is
          have cc : cB (BlkP keys (.tup [l, .tup (ps.map Pg.d)])) = cB (LeftP l) := cB_eq (by rw [e, cB_iff])
          rw [cc]
          simp -implicitDefEqProofs [F_is_block, ap, is, al]
      · rw [cB_not c] at ap
        rw [cB_not (fun z => c (blkP_two z))]
        simp -implicitDefEqProofs [F_is_block, ap]
  | ref n =>
    rw [cB_not (nt fun _ e => by cases e)]
    have td : TN.tup.has .dic = some false := rfl
    rcases o.1.ty with z | z <;> simp -implicitDefEqProofs [F_is_block, z, td]
  | rol _ => cases o.1
  | exn0 _ _ => cases o.1
  | exn1 _ _ _ _ _ => cases o.1
  | int b => rw [cB_not (nt fun _ e => by cases e)]; simp -implicitDefEqProofs [F_is_block]
  | bl b => rw [cB_not (nt fun _ e => by cases e)]; simp -implicitDefEqProofs [F_is_block]
  | non => rw [cB_not (nt fun _ e => by cases e)]; simp -implicitDefEqProofs [F_is_block]
  | str s => rw [cB_not (nt fun _ e => by cases e)]; simp -implicitDefEqProofs [F_is_block]
theorem has_is_block (A : All K mg) : Has P w K mg base 5 "is_block" ["thing", "keys"] G_is_block := Has.trim (has_of A.e_is_block fun f fd F => ok_is_block A.T (has_is_left A) (has_are_pages A) F) (trimF_ok F_is_block)
/-! ### are_blocks -/
noncomputable def B_are_blocks_1 : FS := (dSeq (dIf (dAndT (dTru (dCall G_is_integer (dCons (dVar 4) dNil))) (dTest (dBin oInY (dVar 4) (dVar 2)))) (dRet (dC (D.bl false))) dSkip) (dPut (dVar 2) (dVar 4) (dC (D.bl true))))
noncomputable def B_are_blocks_2 : FS := (dSeq (dIf (dOrT (dNotT (dTru (dCall G_is_block (dCons (dVar 3) (dCons (dVar 1) dNil))))) (dTest (dBin oNe (dCB bLen (dCons (dBin oIx (dVar 3) (dC (D.int 1))) dNil)) (dCB bLen (dCons (dBin oIx (dBin oIx (dVar 0) (dC (D.int 0))) (dC (D.int 1))) dNil))))) (dRet (dC (D.bl false))) dSkip) (dFor (dIter (dBin oIx (dVar 3) (dC (D.int 1)))) (gN 4) B_are_blocks_1))
noncomputable def F_are_blocks : Fn := dDef 2 5 (dSeq (dIf (dNotT (dTest (dChain oLe oLe (dC (D.int 1)) (dCB bLen (dCons (dVar 0) dNil)) (dC (D.int 9))))) (dRet (dC (D.bl false))) dSkip) (dSeq (dSet 2 dNewD) (dSeq (dFor (dIter (dVar 0)) (gN 3) B_are_blocks_2) (dRet (dC (D.bl true))))))
theorem ok_are_blocks (T : Txt K mg) (h_is_block : Has P w K mg base 5 "is_block" ["thing", "keys"] G_is_block) (h_is_integer : Has P w K mg base 1 "is_integer" ["thing"] G_is_integer) {f : Addr} {fd : FuncData} (F : Fun K "are_blocks" "are_blocks" s_are_blocks f fd) : FnOk P w K mg base (L2.CX P w) 6 f fd ["rows", "keys"] (spD K mg F_are_blocks) := by
  refine fn_ok F sc_are_blocks (fun cdv A outer s H E hr => ?_)
  have nd := sc_are_blocks.nd
  have hp := passes_of (X := cxOf (L2.CX P w) P w K mg base ["rows", "keys", "met", "row", "page"] "are_blocks" (defScope s_are_blocks) f cdv A outer s H E) (K := fun e s'' => L2.CX P w outer H s E e s'') rfl
  have tk := takes_of (X := cxOf (L2.CX P w) P w K mg base ["rows", "keys", "met", "row", "page"] "are_blocks" (defScope s_are_blocks) f cdv A outer s H E) (E := E) rfl rfl rfl rfl
  exact (dss_cons (ds_if (dt_not (dt_chain op_le op_le os_ord os_ord de_int (de_callB call_len cs_len T.n_len (da_cons (de_var 0) da_nil)) (de_glob (d := (D.int 9)) rfl T.c_MOST_COUNT.choose_spec ⟨_, rfl⟩))) (dss_one (ds_ret de_bl)) dss_nil) (dss_cons (ds_set 2 nd de_newD) (dss_cons (ds_for hp rfl (di_any (de_var 0)) (dg_name 3 nd) (dss_cons (ds_if (PW.pt (dw_or (dt_not (dt_tru (de_has h_is_block hr (by decide) tk (da_cons (de_var 3) (da_cons (de_var 1) da_nil))))) (dw_or1 (dt_cmp (op_neX hr.units) os_ne (de_callB call_len cs_len T.n_len (da_cons (de_ix (hu_of hr) (de_var 3) de_int) da_nil)) (de_callB call_len cs_len T.n_len (da_cons (de_ix (hu_of hr) (de_ix (hu_of hr) (de_var 0) de_int) de_int) da_nil)))))) (dss_one (ds_ret de_bl)) dss_nil) (dss_one (ds_for hp rfl (di_any (de_ix (hu_of hr) (de_var 3) de_int)) (dg_name 4 nd) (dss_cons (ds_if (PW.pt (dw_and (dt_tru (de_has h_is_integer hr (by decide) tk (da_cons (de_var 4) da_nil))) (dw_and1 (dt_cmp (op_inY (hu65 hr)) os_inY (de_var 4) (de_var 2))))) (dss_one (ds_ret de_bl)) dss_nil) (dss_one (ds_put (hu_of hr) (de_var 2) (de_var 4) de_bl))))))) (dss_one (ds_ret de_bl)))))
noncomputable def G_are_blocks : Fn := trimF F_are_blocks
theorem are_blocks_of {rs : List Bk} {keys np : Nat} {h : DH} {x : D} {keep : DH → Prop} (ln : bLen [x] h = .ok (.int (rs.length : Int)) h) (it : ∀ g, iterS x (h ++ g) = .ok ⟨rs.map Bk.d, keep⟩ (h ++ g)) (kp : ∀ g, keep (h ++ g)) (i0 : ∀ g r0, rs[0]? = some r0 → oIx x (.int 0) (h ++ g) = .ok r0.d (h ++ g)) (ln' : ∀ g, bLen [x] (h ++ g) = .ok (.int (rs.length : Int)) (h ++ g)) (hm : 1 ≤ rs.length ∧ rs.length ≤ 9) (hp : 1 ≤ np ∧ np ≤ 6) (hr : ∀ b ∈ rs, b.ok keys np)
    (once : ∀ (i j a c : Nat) (b b' : Bk) (k : Nat), rs[i]? = some b → rs[j]? = some b' → b.pgs[a]? = some (.key k) → b'.pgs[c]? = some (.key k) → i = j ∧ a = c) :
    G_are_blocks [x, .int (keys : Int)] h = .ok (.bl true) h := by
  obtain ⟨r0, h0⟩ : ∃ r0, rs[0]? = some r0 := ⟨rs[0]'(by omega), List.getElem?_eq_getElem _⟩
  have l0 := (hr r0 (List.mem_of_getElem? h0)).len
  have ix0 := fun g => i0 g r0 h0
  -- what is met: only pages that came before
  let Met : List (Key × D) → Nat → Nat → Prop := fun kvs i a => kvs.length ≤ i * np + a ∧ ∀ k : Nat, (getK kvs (.inl (k : Int))).isSome = true → ∃ j c b, rs[j]? = some b ∧ b.pgs[c]? = some (.key k) ∧ (j < i ∨ j = i ∧ c < a)
  obtain ⟨σ', h', e, _⟩ := for_run (keep := keep) (gg := gN 3) (b := B_are_blocks_2) (ds := rs.map Bk.d)
    (fun i σ h' => ∃ kvs o3 o4, h' = h ++ [.dic kvs] ∧ Met kvs i 0 ∧ σ = [some x, some (.int (keys : Int)), some (.ref h.length), o3, o4])
    (fun i σ h' ⟨kvs, o3, o4, e, _⟩ => by rw [e]; exact kp _)
    (fun i d σ h' hd ⟨kvs, o3, o4, eh, mt, es⟩ => by
      subst eh es
      obtain ⟨b, hb, rfl⟩ := map_at hd
      have il : i < rs.length := (List.getElem?_eq_some_iff.mp hb).1
      have ok := hr b (List.mem_of_getElem? hb)
      obtain ⟨σ2, h2, e2, kvs2, o4', eh2, mt2, es2⟩ := for_run (keep := fun _ => True) (gg := gN 4) (b := B_are_blocks_1) (ds := b.pgs.map Pg.d)
        (fun a σ h' => ∃ kvs o4, h' = h ++ [.dic kvs] ∧ Met kvs i a ∧ σ = [some x, some (.int (keys : Int)), some (.ref h.length), some b.d, o4])
        (fun _ _ _ _ => trivial)
        (fun a d σ h' hd ⟨kvs, o4, eh, mt, es⟩ => by
          subst eh es
          obtain ⟨p, hp, rfl⟩ := map_at hd
          have al : a < b.pgs.length := (List.getElem?_eq_some_iff.mp hp).1
          have len := ok.len
          have small : i * np ≤ 9 * 6 := Nat.mul_le_mul (by omega) (by omega)
          have kl : kvs.length < 16777216 := by have := mt.1; omega
          have iy := inY_dic (h := h ++ [.dic kvs]) (n := h.length) at_new p.keyD
          have pt := put_dic (h := h ++ [.dic kvs]) (n := h.length) (v := .bl true) at_new p.keyD kl
          have no : p.isK = true → (getK kvs p.ky).isSome = false := fun hk => by
            cases p with
            | key k =>
              cases g : (getK kvs (.inl (k : Int))).isSome with
              | false => exact g
              | true =>
                obtain ⟨j, c, b', h1, h2, h3⟩ := mt.2 k g
                have := once j i c a b' b k h1 hb h2 hp
                omega
            | _ => cases hk
          refine ⟨_, rfl, [some x, some (.int (keys : Int)), some (.ref h.length), some b.d, some p.d], _, .inl ?_, putKD kvs p.ky (.bl true), some p.d, rfl, ⟨?_, fun k hk => ?_⟩, rfl⟩
          · rw [set_new] at pt
            cases q : p.isK with
            | true => simp -implicitDefEqProofs [B_are_blocks_1, eq_is_integer, q, iy, no q, pt]
            | false => simp -implicitDefEqProofs [B_are_blocks_1, eq_is_integer, q, iy, pt]
          · have := putKD_len kvs p.ky (.bl true)
            have := mt.1
            omega
          · rw [getK_put] at hk
            by_cases z : (Sum.inl (k : Int) : Key) = p.ky
            · cases p with
              | key k' =>
                have : k = k' := by
                  simp only [Pg.ky, Sum.inl.injEq] at z
                  omega
                subst this
                exact ⟨i, a, b, hb, hp, .inr ⟨rfl, by omega⟩⟩
              | free => cases z
              | old => cases z
            · rw [if_neg z] at hk
              obtain ⟨j, c, b', h1, h2, h3⟩ := mt.2 k hk
              exact ⟨j, c, b', h1, h2, by omega⟩)
        [some x, some (.int (keys : Int)), some (.ref h.length), some b.d, o4] (h ++ [.dic kvs]) ⟨kvs, o4, rfl, mt, rfl⟩
      have ib := eq_is_block (h ++ [.dic kvs]) ok hp
      refine ⟨_, rfl, [some x, some (.int (keys : Int)), some (.ref h.length), some b.d, o4'], h ++ [.dic kvs2], .inl ?_, kvs2, some b.d, o4', rfl, ⟨?_, fun k hk => ?_⟩, rfl⟩
      · subst eh2 es2
        have ix0' := ix0 [Cell.dic kvs]
        have bd : b.d = .tup [b.left.d, .tup (b.pgs.map Pg.d)] := rfl
        have rd : r0.d = .tup [r0.left.d, .tup (r0.pgs.map Pg.d)] := rfl
        rw [bd] at ib e2
        rw [rd] at ix0'
        simp -implicitDefEqProofs [B_are_blocks_2, bd, rd, ib, ix0', oIx_tupX, atI_1, ok.len, l0, e2]
      · have := mt2.1
        rw [List.length_map, ok.len] at this
        rw [Nat.succ_mul]
        omega
      · obtain ⟨j, c, b', h1, h2, h3⟩ := mt2.2 k hk
        exact ⟨j, c, b', h1, h2, by rw [List.length_map] at h3; omega⟩)
    [some x, some (.int (keys : Int)), some (.ref h.length), none, none] (h ++ [.dic []]) ⟨[], none, none, rfl, ⟨by simp, fun k hk => by simp [getK] at hk⟩, rfl⟩
  refine trim_val (g := h'.drop h.length) ?_
  rename_i q
  obtain ⟨kvs, o3, o4, eh, _, es⟩ := q
  subst eh es
  have l1 : (1 : Int) ≤ rs.length := by omega
  have l2 : (rs.length : Int) ≤ 9 := by omega
  simp -implicitDefEqProofs [F_are_blocks, ln, l1, l2, it, e]
theorem eq_are_blocks {rs : List Bk} {keys np : Nat} {h : DH} {n : Nat} (hn : h[n]? = some (.lst (rs.map Bk.d))) (hm : 1 ≤ rs.length ∧ rs.length ≤ 9) (hp : 1 ≤ np ∧ np ≤ 6) (hr : ∀ b ∈ rs, b.ok keys np)
    (once : ∀ (i j a c : Nat) (b b' : Bk) (k : Nat), rs[i]? = some b → rs[j]? = some b' → b.pgs[a]? = some (.key k) → b'.pgs[c]? = some (.key k) → i = j ∧ a = c) :
    G_are_blocks [.ref n, .int (keys : Int)] h = .ok (.bl true) h :=
  are_blocks_of (keep := fun h' => h'[n]? = some (.lst (rs.map Bk.d))) (by rw [bLen_lst hn, List.length_map]) (fun g => iterS_ref (at_old hn)) (fun g => at_old hn)
    (fun g r0 h0 => by rw [oIx_at (at_old hn), show L2.atI (rs.map Bk.d) 0 = some r0.d from atI_n (n := 0) (by rw [List.getElem?_map, h0]; rfl)]; rfl) (fun g => by rw [bLen_lst (at_old hn), List.length_map]) hm hp hr once
theorem Bk.d_inj {b b' : Bk} (e : b.d = b'.d) : b = b' := by
  obtain ⟨l, p⟩ := b
  obtain ⟨l', p'⟩ := b'
  simp only [Bk.d, Bk.pd, D.tup.injEq, List.cons.injEq, and_true] at e
  obtain ⟨e1, e2⟩ := e
  rw [pg_map_inj e2]
  have : l = l' := by
    cases l <;> cases l' <;> simp only [Lf.d, reduceCtorEq, D.int.injEq] at e1 <;> first | rfl | (congr 1; omega)
  rw [this]
theorem bk_map_inj {a b : List Bk} (h : a.map Bk.d = b.map Bk.d) : a = b := (List.map_inj_right fun {a b} z => Bk.d_inj z).mp h
/-- rows of which none is wrong -/
def RowsQ (keys : Nat) (ds : List D) (rs : List Bk) : Prop := ds = rs.map Bk.d ∧ (∃ np, (1 ≤ np ∧ np ≤ 6) ∧ ∀ r ∈ rs, r.ok keys np) ∧ (allKs rs).Nodup
def RowsP (keys : Nat) (ds : List D) : Prop := (1 ≤ ds.length ∧ ds.length ≤ 9) ∧ ∃ rs, RowsQ keys ds rs
theorem allKs_app (a b : List Bk) : allKs (a ++ b) = allKs a ++ allKs b := by unfold allKs; rw [List.flatMap_append]
theorem allKs_one (b : Bk) : allKs [b] = ksOf b.pgs := by unfold allKs; simp
theorem rowsQ_pre {keys : Nat} {ds : List D} {rs : List Bk} (h : RowsQ keys ds rs) (i : Nat) : RowsQ keys (ds.take i) (rs.take i) := by
  obtain ⟨h1, ⟨np, h2, h3⟩, h4⟩ := h
  refine ⟨by rw [h1, List.map_take], ⟨np, h2, fun r hr => h3 r (List.mem_of_mem_take hr)⟩, ?_⟩
  have e : allKs rs = allKs (rs.take i) ++ allKs (rs.drop i) := by rw [← allKs_app, List.take_append_drop]
  rw [e] at h4
  exact (List.nodup_append.mp h4).1
theorem any_blocks {ds : List D} {keys : Nat} {h : DH} {x : D} {keep : DH → Prop} (od : ∀ d ∈ ds, OkN h 2 d)
    (ln : ∀ g, bLen [x] (h ++ g) = .ok (.int (ds.length : Int)) (h ++ g)) (it : ∀ g, iterS x (h ++ g) = .ok ⟨ds, keep⟩ (h ++ g)) (kp : ∀ g, keep (h ++ g)) (i0 : ∀ g d0, ds[0]? = some d0 → oIx x (.int 0) (h ++ g) = .ok d0 (h ++ g)) :
    G_are_blocks [x, .int (keys : Int)] h = .ok (.bl (cB (RowsP keys ds))) h := by
  have ln0 := ln []
  have it1 := it [.dic []]
  rw [List.append_nil] at ln0
  by_cases len : 1 ≤ ds.length ∧ ds.length ≤ 9
  · have l1 : (1 : Int) ≤ ds.length := by omega
    have l2 : (ds.length : Int) ≤ 9 := by omega
    let Met : List (Key × D) → List Nat → Prop := fun kvs K => ∀ k : Nat, (getK kvs (.inl (k : Int))).isSome = true ↔ k ∈ K
    have key := for_at (keep := keep) (gg := gN 3) (b := B_are_blocks_2) (ds := ds)
      (fun i σ h' => ∃ kvs o3 o4 rs, h' = h ++ [.dic kvs] ∧ kvs.length ≤ 6 * i ∧ RowsQ keys (ds.take i) rs ∧ Met kvs (allKs rs) ∧ σ = [some x, some (.int (keys : Int)), some (.ref h.length), o3, o4])
      (fun r => ∃ g, (∃ rs σ, RowsQ keys ds rs ∧ r = .nx σ (h ++ g)) ∨ ((¬ ∃ rs, RowsQ keys ds rs) ∧ r = .rt (.bl false) (h ++ g)))
      (fun σ h' ⟨kvs, o3, o4, rs, eh, kl, rq, mt, es⟩ => ⟨by rw [eh]; exact kp _, [.dic kvs], .inl ⟨rs, σ, by rwa [List.take_length] at rq, by rw [eh]⟩⟩)
      (fun i d σ h' hd ⟨kvs, o3, o4, rs, eh, kl, rq, mt, es⟩ => by
        subst eh es
        have il : i < ds.length := (List.getElem?_eq_some_iff.mp hd).1
        have nx := take_next hd
        have ib := any_block ((od d (List.mem_of_getElem? hd)).ext (g := [.dic kvs])) keys
        -- whatever the rows are, they begin as here
        have agree : ∀ qs, RowsQ keys ds qs → rs = qs.take i ∧ ∃ q, qs[i]? = some q ∧ d = q.d := fun qs hq => by
          refine ⟨bk_map_inj (by rw [← rq.1, (rowsQ_pre hq i).1]), ?_⟩
          rw [hq.1] at hd
          obtain ⟨q, h1, h2⟩ := map_at hd
          exact ⟨q, h1, h2⟩
        refine ⟨kp _, _, rfl, ?_⟩
        by_cases c : BlkP keys d
        · rw [cB_of c] at ib
          obtain ⟨b, n', rfl, bok, hn'⟩ := c
          obtain ⟨d0, hd0⟩ : ∃ d0, ds[0]? = some d0 := ⟨_, List.getElem?_eq_getElem (by omega)⟩
          -- the first row
          obtain ⟨b0, rfl, first⟩ : ∃ b0 : Bk, d0 = b0.d ∧ (rs ++ [b])[0]? = some b0 := by
            by_cases z : i = 0
            · subst z
              rw [hd] at hd0
              cases hd0
              have : rs = [] := by
                have := congrArg List.length rq.1
                simp only [List.take_zero, List.length_nil, List.length_map] at this
                exact List.length_eq_zero_iff.mp this.symm
              rw [this]
              exact ⟨b, rfl, rfl⟩
            · have e0 : (ds.take i)[0]? = some d0 := by rw [List.getElem?_take_of_lt (by omega)]; exact hd0
              rw [rq.1] at e0
              obtain ⟨b0, h1, h2⟩ := map_at e0
              exact ⟨b0, h2, by rw [List.getElem?_append_left (List.getElem?_eq_some_iff.mp h1).1]; exact h1⟩
          have ix0 := i0 [.dic kvs] b0.d hd0
          have bd : b.d = .tup [b.left.d, .tup (b.pgs.map Pg.d)] := rfl
          have rd : b0.d = .tup [b0.left.d, .tup (b0.pgs.map Pg.d)] := rfl
          by_cases le : b.pgs.length = b0.pgs.length
          · -- the row is joined, its keys are asked
            have rowsq : (allKs rs ++ ksOf b.pgs).Nodup → RowsQ keys (ds.take (i + 1)) (rs ++ [b]) := fun nd => by
              refine ⟨by rw [nx, rq.1, List.map_append]; rfl, ?_, by rw [allKs_app, allKs_one]; exact nd⟩
              obtain ⟨np, hp, hr⟩ := rq.2.1
              cases hrs : rs with
              | nil =>
                rw [hrs] at hr
                exact ⟨n', hn', fun r hr2 => by rw [List.nil_append, List.mem_singleton] at hr2; rw [hr2]; exact bok⟩
              | cons r0 rt =>
                rw [hrs] at first hr
                cases first
                have ok0 := hr b0 (List.mem_cons_self ..)
                have : n' = np := by rw [← bok.len, le, ok0.len]
                subst this
                exact ⟨n', hn', fun r hr2 => by
                  rcases List.mem_append.mp hr2 with hr2 | hr2
                  · exact hr r hr2
                  · rw [List.mem_singleton.mp hr2]; exact bok⟩
            have inner := for_at (keep := fun _ => True) (gg := gN 4) (b := B_are_blocks_1) (ds := b.pgs.map Pg.d)
              (fun a σ h' => ∃ kvs o4, h' = h ++ [.dic kvs] ∧ kvs.length ≤ 6 * i + a ∧ Met kvs (allKs rs ++ ksOf (b.pgs.take a)) ∧ (allKs rs ++ ksOf (b.pgs.take a)).Nodup ∧ σ = [some x, some (.int (keys : Int)), some (.ref h.length), some b.d, o4])
              (fun r => ∃ kvs o4, (kvs.length ≤ 6 * i + b.pgs.length ∧ Met kvs (allKs rs ++ ksOf b.pgs) ∧ (allKs rs ++ ksOf b.pgs).Nodup ∧ r = .nx [some x, some (.int (keys : Int)), some (.ref h.length), some b.d, o4] (h ++ [.dic kvs])) ∨ (¬ (allKs rs ++ ksOf b.pgs).Nodup ∧ r = .rt (.bl false) (h ++ [.dic kvs])))
              (fun σ h' ⟨kvs, o4, eh, kl, mt, nd, es⟩ => ⟨trivial, kvs, o4, .inl (by rw [List.length_map] at kl mt nd; rw [List.take_length] at mt nd; exact ⟨kl, mt, nd, by rw [eh, es]⟩)⟩)
              (fun a d σ h' hd ⟨kvs, o4, eh, kl, mt, nd, es⟩ => by
                subst eh es
                obtain ⟨p, hp, rfl⟩ := map_at hd
                have al : a < b.pgs.length := (List.getElem?_eq_some_iff.mp hp).1
                have iy := inY_dic (h := h ++ [.dic kvs]) (n := h.length) at_new p.keyD
                have pt := put_dic (h := h ++ [.dic kvs]) (n := h.length) (v := .bl true) at_new p.keyD (by rw [bok.len] at al; omega)
                rw [set_new] at pt
                have tk : ksOf (b.pgs.take (a + 1)) = ksOf (b.pgs.take a) ++ ksOf [p] := by rw [take_next hp, ks_app]
                have pl := putKD_len kvs p.ky (.bl true)
                refine ⟨trivial, _, rfl, ?_⟩
                have isn := fun H => eq_is_integer p H
                cases p with
                | free =>
                  refine .inl ⟨_, _, .inl ?_, putKD kvs Pg.free.ky (.bl true), some Pg.free.d, rfl, by omega, fun k => ?_, ?_, rfl⟩
                  · simp -implicitDefEqProofs [B_are_blocks_1, isn, Pg.isK, pt]
                  · rw [getK_put, if_neg (by intro z; cases z), tk, mt k]
                    simp [ksOf]
                  · rw [tk]; simpa [ksOf] using nd
                | old =>
                  refine .inl ⟨_, _, .inl ?_, putKD kvs Pg.old.ky (.bl true), some Pg.old.d, rfl, by omega, fun k => ?_, ?_, rfl⟩
                  · simp -implicitDefEqProofs [B_are_blocks_1, isn, Pg.isK, pt]
                  · rw [getK_put, if_neg (by intro z; cases z), tk, mt k]
                    simp [ksOf]
                  · rw [tk]; simpa [ksOf] using nd
                | key k0 =>
                  have k1 : ksOf [Pg.key k0] = [k0] := rfl
                  by_cases m : k0 ∈ allKs rs ++ ksOf (b.pgs.take a)
                  · have g : (getK kvs (Pg.key k0).ky).isSome = true := (mt k0).mpr m
                    rw [g] at iy
                    refine .inr (.inl ⟨.bl false, h ++ [.dic kvs], ?_, kvs, none, .inr ⟨fun z => ?_, rfl⟩⟩)
                    · simp -implicitDefEqProofs [B_are_blocks_1, isn, Pg.isK, iy]
                    · have e : b.pgs = b.pgs.take a ++ (.key k0 :: b.pgs.drop (a + 1)) := by
                        rw [show Pg.key k0 = b.pgs[a] from (by rw [List.getElem?_eq_getElem al] at hp; exact (Option.some.inj hp).symm), ← List.drop_eq_getElem_cons al, List.take_append_drop]
                      rw [e, ks_app] at z
                      have e2 : ksOf (Pg.key k0 :: b.pgs.drop (a + 1)) = k0 :: ksOf (b.pgs.drop (a + 1)) := rfl
                      rw [e2, ← List.append_assoc] at z
                      exact (List.nodup_append.mp z).2.2 k0 m k0 (List.mem_cons_self ..) rfl
                  · have g : (getK kvs (Pg.key k0).ky).isSome = false := by
                      cases q : (getK kvs (Pg.key k0).ky).isSome with
                      | false => rfl
                      | true => exact absurd ((mt k0).mp q) m
                    rw [g] at iy
                    refine .inl ⟨_, _, .inl ?_, putKD kvs (Pg.key k0).ky (.bl true), some (Pg.key k0).d, rfl, by omega, fun k => ?_, ?_, rfl⟩
                    · simp -implicitDefEqProofs [B_are_blocks_1, isn, Pg.isK, iy, pt]
                    · rw [getK_put, tk, k1, ← List.append_assoc, List.mem_append, List.mem_singleton]
                      by_cases z : k = k0
                      · subst z; simp [Pg.ky]
                      · rw [if_neg (by intro q; simp only [Pg.ky, Sum.inl.injEq] at q; omega), mt k]
                        simp [z]
                    · rw [tk, k1, ← List.append_assoc, List.nodup_append]
                      refine ⟨nd, by simp, fun y hy w hw e => ?_⟩
                      rw [List.mem_singleton] at hw
                      subst hw e
                      exact m hy)
              [some x, some (.int (keys : Int)), some (.ref h.length), some b.d, o4] (h ++ [.dic kvs]) ⟨kvs, o4, rfl, by omega, by rw [List.take_zero]; show Met kvs (allKs rs ++ []); rw [List.append_nil]; exact mt, by rw [List.take_zero]; show (allKs rs ++ []).Nodup; rw [List.append_nil]; exact rq.2.2, rfl⟩
            rw [bd] at ib inner
            rw [rd] at ix0
            rcases inner with ⟨kvs2, o4', ⟨kl2, mt2, nd2, e⟩ | ⟨nd2, e⟩⟩
            · refine .inl ⟨[some x, some (.int (keys : Int)), some (.ref h.length), some (.tup [b.left.d, .tup (b.pgs.map Pg.d)]), o4'], h ++ [.dic kvs2], .inl ?_, kvs2, _, o4', rs ++ [b], rfl, ?_, rowsq nd2, by rw [allKs_app, allKs_one]; exact mt2, rfl⟩
              · rw [bd]
                simp -implicitDefEqProofs [B_are_blocks_2, ib, ix0, oIx_tupX, atI_1, le, e]
              · have := bok.len
                omega
            · refine .inr (.inl ⟨.bl false, h ++ [.dic kvs2], ?_, [.dic kvs2], .inr ⟨fun ⟨qs, hq⟩ => ?_, rfl⟩⟩)
              · rw [bd]
                simp -implicitDefEqProofs [B_are_blocks_2, ib, ix0, oIx_tupX, atI_1, le, e]
              · obtain ⟨h1, q, h2, h3⟩ := agree qs hq
                have qb : b = q := Bk.d_inj h3
                subst qb
                have := (rowsQ_pre hq (i + 1)).2.2
                rw [take_next h2, allKs_app, allKs_one, ← h1] at this
                exact nd2 this
          · rw [bd] at ib
            rw [rd] at ix0
            have le' : ¬ (b.pgs.length : Int) = (b0.pgs.length : Int) := by omega
            refine .inr (.inl ⟨.bl false, h ++ [.dic kvs], ?_, [.dic kvs], .inr ⟨fun ⟨qs, hq⟩ => ?_, rfl⟩⟩)
            · rw [bd]
              simp -implicitDefEqProofs [B_are_blocks_2, ib, ix0, oIx_tupX, atI_1, le, le']
            · obtain ⟨h1, q, h2, h3⟩ := agree qs hq
              have qb : b = q := Bk.d_inj h3
              subst qb
              obtain ⟨np, _, hr⟩ := hq.2.1
              have m0 : b0 ∈ qs := by
                have f := List.mem_of_getElem? first
                rcases List.mem_append.mp f with f | f
                · rw [h1] at f; exact List.mem_of_mem_take f
                · rw [List.mem_singleton.mp f]; exact List.mem_of_getElem? h2
              exact le (by rw [(hr b (List.mem_of_getElem? h2)).len, (hr b0 m0).len])
        · rw [cB_not c] at ib
          refine .inr (.inl ⟨.bl false, h ++ [.dic kvs], ?_, [.dic kvs], .inr ⟨fun ⟨qs, hq⟩ => ?_, rfl⟩⟩)
          · simp -implicitDefEqProofs [B_are_blocks_2, ib]
          · obtain ⟨_, q, h2, h3⟩ := agree qs hq
            obtain ⟨np, hp, hr⟩ := hq.2.1
            exact c ⟨q, np, h3, hr q (List.mem_of_getElem? h2), hp⟩)
      [some x, some (.int (keys : Int)), some (.ref h.length), none, none] (h ++ [.dic []]) ⟨[], none, none, [], rfl, by simp, ⟨rfl, ⟨1, by omega, fun _ h => by cases h⟩, List.nodup_nil⟩, fun k => by simp [getK, allKs], rfl⟩
    obtain ⟨g, ⟨rs, σ, rq, e⟩ | ⟨no, e⟩⟩ := key
    · rw [cB_of (show RowsP keys ds from ⟨len, rs, rq⟩)]
      refine trim_val (g := g) ?_
      simp -implicitDefEqProofs [F_are_blocks, ln0, l1, l2, it1, e]
    · rw [cB_not (fun z : RowsP keys ds => no z.2)]
      refine trim_val (g := g) ?_
      simp -implicitDefEqProofs [F_are_blocks, ln0, l1, l2, it1, e]
  · rw [cB_not (fun z : RowsP keys ds => len z.1)]
    refine trim_same ?_
    by_cases l1 : (1 : Int) ≤ ds.length
    · have l2 : ¬ (ds.length : Int) ≤ 9 := by omega
      simp -implicitDefEqProofs [F_are_blocks, ln0, l1, l2]
    · simp -implicitDefEqProofs [F_are_blocks, ln0, l1]
theorem has_are_blocks (A : All K mg) : Has P w K mg base 6 "are_blocks" ["rows", "keys"] G_are_blocks := Has.trim (has_of A.e_are_blocks fun f fd F => ok_are_blocks A.T (has_is_block A) (has_is_integer A) F) (trimF_ok F_are_blocks)
/-! ### is_asked -/
noncomputable def F_is_asked : Fn := dDef 2 2 (dRet (dOrV (dBin oIsN (dVar 0) (dC D.non)) (dCall G_in_range (dCons (dVar 0) (dCons (dC (D.int 0)) (dCons (dBin oSub (dVar 1) (dC (D.int 1))) dNil))))))
theorem ok_is_asked (T : Txt K mg) (h_in_range : Has P w K mg base 2 "in_range" ["thing", "low", "high"] G_in_range) {f : Addr} {fd : FuncData} (F : Fun K "is_asked" "is_asked" s_is_asked f fd) : FnOk P w K mg base (L2.CX P w) 3 f fd ["thing", "keys"] (spD K mg F_is_asked) := by
  refine fn_ok F sc_is_asked (fun cdv A outer s H E hr => ?_)
  have nd := sc_is_asked.nd
  have hp := passes_of (X := cxOf (L2.CX P w) P w K mg base ["thing", "keys"] "is_asked" (defScope s_is_asked) f cdv A outer s H E) (K := fun e s'' => L2.CX P w outer H s E e s'') rfl
  have tk := takes_of (X := cxOf (L2.CX P w) P w K mg base ["thing", "keys"] "is_asked" (defScope s_is_asked) f cdv A outer s H E) (E := E) rfl rfl rfl rfl
  exact (dss_one (ds_ret (de_or (de_cmp op_isX os_is (de_var 0) de_non) (de_one (de_has h_in_range hr (by decide) tk (da_cons (de_var 0) (da_cons de_int (da_cons (de_op op_sub os_sub (de_var 1) de_int) da_nil))))))))
noncomputable def G_is_asked : Fn := trimF F_is_asked
theorem eq_is_asked {o : Option Nat} {keys : Nat} (h : DH) (ho : ∀ k, o = some k → k < keys) : G_is_asked [optD o, .int (keys : Int)] h = .ok (.bl true) h := by
  refine trim_same ?_
  cases o with
  | none => simp -implicitDefEqProofs [F_is_asked, optD]
  | some k =>
    have := ho k rfl
    have a : (0 : Int) ≤ k := by omega
    have b : (k : Int) ≤ (keys : Int) - 1 := by omega
    simp -implicitDefEqProofs [F_is_asked, optD, eq_in_range, a, b]

def AskP (keys : Nat) (x : D) : Prop := ∃ o : Option Nat, x = optD o ∧ ∀ k, o = some k → k < keys
theorem askP_num {keys : Nat} {x : D} (hn : x ≠ .non) : AskP keys x ↔ numB 0 ((keys : Int) - 1) x = true := by
  constructor
  · rintro ⟨o, rfl, h⟩
    cases o with
    | none => exact absurd rfl hn
    | some k =>
      have := h k rfl
      simp only [optD, numB, Bool.and_eq_true, decide_eq_true_eq]
      omega
  · intro h
    obtain ⟨b, rfl, h1, h2⟩ := numB_int h
    obtain ⟨n, rfl⟩ : ∃ n : Nat, b = (n : Int) := ⟨b.toNat, by omega⟩
    exact ⟨some n, rfl, fun k e => by cases e; omega⟩
theorem any_asked {x : D} {h : DH} (o : OkD h x) (keys : Nat) : G_is_asked [x, .int (keys : Int)] h = .ok (.bl (cB (AskP keys x))) h := by
  refine trim_same ?_
  by_cases ln : x = .non
  · subst ln
    rw [cB_of (show AskP keys .non from ⟨none, rfl, fun k e => by cases e⟩)]
    simp -implicitDefEqProofs [F_is_asked]
  · have is := any_isN o
    have nb : nonB x = false := by
      cases q : nonB x with
      | false => rfl
      | true => exact absurd (nonB_iff.mp q) ln
    rw [nb] at is
    have e := any_range o 0 ((keys : Int) - 1)
    rw [cB_eq (askP_num ln)]
    simp -implicitDefEqProofs [F_is_asked, is, e]

theorem has_is_asked (A : All K mg) : Has P w K mg base 3 "is_asked" ["thing", "keys"] G_is_asked := Has.trim (has_of A.e_is_asked fun f fd F => ok_is_asked A.T (has_in_range A) F) (trimF_ok F_is_asked)
/-! ### is_shape -/
noncomputable def F_is_shape : Fn := dDef 1 6 (dSeq (dIf (dOrT (dNotT (dTru (dIs .tup (dVar 0)))) (dTest (dBin oNe (dCB bLen (dCons (dVar 0) dNil)) (dC (D.int 5))))) (dRet (dC (D.bl false))) dSkip) (dSeq (dUnp (gT (gConsD (gN 1) (gConsD (gN 2) (gConsD (gN 3) (gConsD (gN 4) (gConsD (gN 5) gNilD)))))) (dVar 0)) (dSeq (dIf (dNotT (dTru (dCall G_in_range (dCons (dVar 1) (dCons (dC (D.int 1)) (dCons (dC (D.int 9)) dNil)))))) (dRet (dC (D.bl false))) dSkip) (dSeq (dIf (dOrT (dNotT (dTru (dIs .tup (dVar 2)))) (dNotT (dTru (dCall G_are_blocks (dCons (dVar 2) (dCons (dVar 1) dNil)))))) (dRet (dC (D.bl false))) dSkip) (dSeq (dIf (dOrT (dNotT (dTru (dCall G_in_range (dCons (dVar 3) (dCons (dC (D.int 0)) (dCons (dC (D.int 9)) dNil)))))) (dNotT (dTru (dCall G_in_range (dCons (dVar 4) (dCons (dC (D.int 0)) (dCons (dC (D.int 9)) dNil))))))) (dRet (dC (D.bl false))) dSkip) (dRet (dCall G_is_asked (dCons (dVar 5) (dCons (dVar 1) dNil)))))))))
theorem ok_is_shape (T : Txt K mg) (h_is_asked : Has P w K mg base 3 "is_asked" ["thing", "keys"] G_is_asked) (h_in_range : Has P w K mg base 2 "in_range" ["thing", "low", "high"] G_in_range) (h_are_blocks : Has P w K mg base 6 "are_blocks" ["rows", "keys"] G_are_blocks) {f : Addr} {fd : FuncData} (F : Fun K "is_shape" "is_shape" s_is_shape f fd) : FnOk P w K mg base (L2.CX P w) 7 f fd ["thing"] (spD K mg F_is_shape) := by
  refine fn_ok F sc_is_shape (fun cdv A outer s H E hr => ?_)
  have nd := sc_is_shape.nd
  have hp := passes_of (X := cxOf (L2.CX P w) P w K mg base ["thing", "keys", "rows", "fails", "cuts", "asked"] "is_shape" (defScope s_is_shape) f cdv A outer s H E) (K := fun e s'' => L2.CX P w outer H s E e s'') rfl
  have tk := takes_of (X := cxOf (L2.CX P w) P w K mg base ["thing", "keys", "rows", "fails", "cuts", "asked"] "is_shape" (defScope s_is_shape) f cdv A outer s H E) (E := E) rfl rfl rfl rfl
  exact (dss_cons (ds_if (PW.pt (dw_or (dt_not (dt_tru (de_is .tup (by decide) T.n_isinstance T.n_tuple (de_var 0)))) (dw_or1 (dt_cmp (op_neX hr.units) os_ne (de_callB call_len cs_len T.n_len (da_cons (de_var 0) da_nil)) de_int)))) (dss_one (ds_ret de_bl)) dss_nil) (dss_cons (ds_unp (de_var 0) (dg_tup rfl (dgs_cons (dg_name 1 nd) (dgs_cons (dg_name 2 nd) (dgs_cons (dg_name 3 nd) (dgs_cons (dg_name 4 nd) (dgs_cons (dg_name 5 nd) dgs_nil))))) (gl_cons (gl_cons (gl_cons (gl_cons (gl_cons gl_nil))))))) (dss_cons (ds_if (dt_not (dt_tru (de_has h_in_range hr (by decide) tk (da_cons (de_var 1) (da_cons de_int (da_cons (de_glob (d := (D.int 9)) rfl T.c_MOST_COUNT.choose_spec ⟨_, rfl⟩) da_nil)))))) (dss_one (ds_ret de_bl)) dss_nil) (dss_cons (ds_if (PW.pt (dw_or (dt_not (dt_tru (de_is .tup (by decide) T.n_isinstance T.n_tuple (de_var 2)))) (dw_or1 (dt_not (dt_tru (de_has h_are_blocks hr (by decide) tk (da_cons (de_var 2) (da_cons (de_var 1) da_nil)))))))) (dss_one (ds_ret de_bl)) dss_nil) (dss_cons (ds_if (PW.pt (dw_or (dt_not (dt_tru (de_has h_in_range hr (by decide) tk (da_cons (de_var 3) (da_cons de_int (da_cons (de_glob (d := (D.int 9)) rfl T.c_MOST_COUNT.choose_spec ⟨_, rfl⟩) da_nil)))))) (dw_or1 (dt_not (dt_tru (de_has h_in_range hr (by decide) tk (da_cons (de_var 4) (da_cons de_int (da_cons (de_glob (d := (D.int 9)) rfl T.c_MOST_COUNT.choose_spec ⟨_, rfl⟩) da_nil))))))))) (dss_one (ds_ret de_bl)) dss_nil) (dss_one (ds_ret (de_has h_is_asked hr (by decide) tk (da_cons (de_var 5) (da_cons (de_var 1) da_nil))))))))))
noncomputable def G_is_shape : Fn := trimF F_is_shape
theorem eq_is_shape {s : Sh} {np : Nat} (ok : s.ok np) (h : DH) : G_is_shape [s.d] h = .ok (.bl true) h := by
  have ab : G_are_blocks [s.rd, .int (s.keys : Int)] h = .ok (.bl true) h := are_blocks_of (keep := fun _ => True) (by rw [Sh.rd, bLen_tup, List.length_map]) (fun g => iter_rd) (fun _ => trivial)
    (fun g r0 h0 => congrFun (rd_pt (b := 0) h0) (h ++ g)) (fun g => by rw [Sh.rd, bLen_tup, List.length_map]) ok.many ok.pages ok.rows ok.once
  have keys := ok.keys
  have ia := eq_is_asked h ok.asked
  have k1 : (1 : Int) ≤ s.keys := by omega
  have k2 : (s.keys : Int) ≤ 9 := by omega
  have f1 : (0 : Int) ≤ s.fails := by omega
  have f2 : (s.fails : Int) ≤ 9 := by have := ok.fails; omega
  have c1 : (0 : Int) ≤ s.cuts := by omega
  have c2 : (s.cuts : Int) ≤ 9 := by have := ok.cuts; omega
  refine trim_same ?_
  rw [Sh.rd] at ab
  simp -implicitDefEqProofs [F_is_shape, Sh.d, Sh.rd, eq_in_range, k1, k2, f1, f2, c1, c2, ab, ia]
theorem ks_nodup1 : ∀ ps : List Pg, (∀ (a c k : Nat), ps[a]? = some (.key k) → ps[c]? = some (.key k) → a = c) → (ksOf ps).Nodup
  | [], _ => List.nodup_nil
  | p :: ps, h => by
    have ih := ks_nodup1 ps (fun a c k e1 e2 => by
      have := h (a + 1) (c + 1) k (by simpa using e1) (by simpa using e2)
      omega)
    cases p with
    | free => exact ih
    | old => exact ih
    | key k =>
      show (k :: ksOf ps).Nodup
      rw [List.nodup_cons]
      refine ⟨fun m => ?_, ih⟩
      obtain ⟨i, il, e⟩ := List.getElem_of_mem (ks_mem.mp m)
      have := h 0 (i + 1) k rfl (by rw [List.getElem?_cons_succ, List.getElem?_eq_getElem il, e])
      omega
theorem once_nodup : ∀ rs : List Bk, (∀ (i j a c : Nat) (b b' : Bk) (k : Nat), rs[i]? = some b → rs[j]? = some b' → b.pgs[a]? = some (.key k) → b'.pgs[c]? = some (.key k) → i = j ∧ a = c) → (allKs rs).Nodup
  | [], _ => List.nodup_nil
  | b :: rs, h => by
    have ih := once_nodup rs (fun i j a c b b' k e1 e2 e3 e4 => by
      have := h (i + 1) (j + 1) a c b b' k (by simpa using e1) (by simpa using e2) e3 e4
      exact ⟨by omega, this.2⟩)
    show (ksOf b.pgs ++ allKs rs).Nodup
    rw [List.nodup_append]
    refine ⟨ks_nodup1 _ (fun a c k e1 e2 => (h 0 0 a c b b k rfl rfl e1 e2).2), ih, fun x hx y hy e => ?_⟩
    subst e
    obtain ⟨a, al, ea⟩ := List.getElem_of_mem (ks_mem.mp hx)
    unfold allKs at hy
    obtain ⟨b', hb', hk⟩ := List.mem_flatMap.mp hy
    obtain ⟨j, jl, ej⟩ := List.getElem_of_mem hb'
    obtain ⟨c, cl, ec⟩ := List.getElem_of_mem (ks_mem.mp hk)
    have := (h 0 (j + 1) a c b b' x rfl (by rw [List.getElem?_cons_succ, List.getElem?_eq_getElem jl, ej]) (by rw [List.getElem?_eq_getElem al, ea]) (by rw [List.getElem?_eq_getElem cl, ec])).1
    omega
/-- the shape of a stand -/
def ShP (x : D) : Prop := ∃ (s : Sh) (np : Nat), s.ok np ∧ x = s.d
def natOf : D → Nat
  | .int i => i.toNat
  | _ => 0
/-- five parts that are right -/
def FiveP (k : D) (ds : List D) (f c a : D) : Prop := numB 1 9 k = true ∧ RowsP (natOf k) ds ∧ numB 0 9 f = true ∧ numB 0 9 c = true ∧ AskP (natOf k) a
theorem five_sh {k f c a : D} {ds : List D} : FiveP k ds f c a ↔ ∃ (s : Sh) (np : Nat), s.ok np ∧ k = .int (s.keys : Int) ∧ ds = s.rows.map Bk.d ∧ f = .int (s.fails : Int) ∧ c = .int (s.cuts : Int) ∧ a = optD s.asked := by
  constructor
  · rintro ⟨h1, ⟨len, rs, e, ⟨np, hp, hr⟩, nd⟩, h3, h4, o, h5, h6⟩
    obtain ⟨x, rfl, x1, x2⟩ := numB_int h1
    obtain ⟨y, rfl, y1, y2⟩ := numB_int h3
    obtain ⟨z, rfl, z1, z2⟩ := numB_int h4
    obtain ⟨x, rfl⟩ : ∃ n : Nat, x = (n : Int) := ⟨x.toNat, by omega⟩
    obtain ⟨y, rfl⟩ : ∃ n : Nat, y = (n : Int) := ⟨y.toNat, by omega⟩
    obtain ⟨z, rfl⟩ : ∃ n : Nat, z = (n : Int) := ⟨z.toNat, by omega⟩
    have nk : natOf (.int (x : Int)) = x := by show (x : Int).toNat = x; omega
    rw [nk] at hr h6
    rw [e, List.length_map] at len
    exact ⟨⟨x, rs, y, z, o⟩, np, ⟨by show 1 ≤ x ∧ x ≤ 9; omega, len, hp, hr, once_of nd, by show y ≤ 9; omega, by show z ≤ 9; omega, h6⟩, rfl, e, rfl, rfl, h5⟩
  · rintro ⟨s, np, ok, rfl, rfl, rfl, rfl, rfl⟩
    have nk : natOf (.int (s.keys : Int)) = s.keys := by show (s.keys : Int).toNat = s.keys; omega
    have keys := ok.keys
    have fails := ok.fails
    have cuts := ok.cuts
    refine ⟨?_, ⟨by rw [List.length_map]; exact ok.many, s.rows, rfl, ⟨np, ok.pages, ?_⟩, once_nodup _ ok.once⟩, ?_, ?_, s.asked, rfl, ?_⟩
    · simp only [numB, Bool.and_eq_true, decide_eq_true_eq]; omega
    · rw [nk]; exact ok.rows
    · simp only [numB, Bool.and_eq_true, decide_eq_true_eq]; omega
    · simp only [numB, Bool.and_eq_true, decide_eq_true_eq]; omega
    · rw [nk]; exact ok.asked
theorem shP_five {k f c a : D} {ds : List D} : ShP (.tup [k, .tup ds, f, c, a]) ↔ FiveP k ds f c a := by
  rw [five_sh]
  constructor
  · rintro ⟨s, np, ok, e⟩
    simp only [Sh.d, Sh.rd, D.tup.injEq, List.cons.injEq, and_true] at e
    exact ⟨s, np, ok, e⟩
  · rintro ⟨s, np, ok, rfl, rfl, rfl, rfl, rfl⟩
    exact ⟨s, np, ok, rfl⟩
theorem any_shape {x : D} {h : DH} (o : OkN h 4 x) : G_is_shape [x] h = .ok (.bl (cB (ShP x))) h := by
  refine trim_same ?_
  have nt : (∀ l, x ≠ .tup l) → ¬ ShP x := fun n ⟨s, _, _, e⟩ => n _ e
  cases x with
  | tup ds =>
    obtain ⟨_, od⟩ := o.2 ds rfl
    by_cases l5 : ds.length = 5
    · obtain ⟨k, r, f, c, a, rfl⟩ : ∃ k r f c a, ds = [k, r, f, c, a] := by
        match ds, l5 with
        | [k, r, f, c, a], _ => exact ⟨k, r, f, c, a, rfl⟩
      have ok1 := any_range (od k (by simp)).ok 1 9
      have ok3 := any_range (od f (by simp)).ok 0 9
      have ok4 := any_range (od c (by simp)).ok 0 9
      cases hk : numB 1 9 k with
      | false =>
        rw [hk] at ok1
        have no : ¬ ShP (.tup [k, r, f, c, a]) := fun ⟨s, np, ok, e⟩ => by
          simp only [Sh.d, D.tup.injEq, List.cons.injEq, and_true] at e
          have keys := ok.keys
          rw [e.1] at hk
          simp only [numB, Bool.and_eq_false_iff, decide_eq_false_iff_not] at hk
          omega
        rw [cB_not no]
        simp -implicitDefEqProofs [F_is_shape, ok1]
      | true =>
        rw [hk] at ok1
        obtain ⟨kn, rfl, k1, k2⟩ := numB_int hk
        obtain ⟨kn, rfl⟩ : ∃ n : Nat, kn = (n : Int) := ⟨kn.toNat, by omega⟩
        have nk : natOf (.int (kn : Int)) = kn := by show (kn : Int).toNat = kn; omega
        have ok5 := any_asked (od a (by simp)).ok kn
        have or := od r (by simp)
        have nr : (∀ l, r ≠ .tup l) → ¬ ShP (.tup [.int (kn : Int), r, f, c, a]) := fun n ⟨s, np, ok, e⟩ => by
          simp only [Sh.d, Sh.rd, D.tup.injEq, List.cons.injEq, and_true] at e
          exact n _ e.2.1
        cases r with
        | tup rd =>
          obtain ⟨_, ord⟩ := or.2 rd rfl
          have ab := any_blocks (keep := fun _ => True) (x := .tup rd) (keys := kn) ord (fun g => bLen_tup) (fun g => iterS_tup) (fun _ => trivial) (fun g d0 e0 => by
            rw [oIx_tupX, show L2.atI rd 0 = some d0 from atI_n (n := 0) e0]; rfl)
          have five := shP_five (k := .int (kn : Int)) (ds := rd) (f := f) (c := c) (a := a)
          by_cases hr : RowsP kn rd
          · rw [cB_of hr] at ab
            cases hf : numB 0 9 f with
            | false =>
              rw [hf] at ok3
              rw [cB_not (fun z => by have := (five.mp z).2.2.1; rw [hf] at this; cases this)]
              simp -implicitDefEqProofs [F_is_shape, ok1, ab, ok3]
            | true =>
              rw [hf] at ok3
              cases hc : numB 0 9 c with
              | false =>
                rw [hc] at ok4
                rw [cB_not (fun z => by have := (five.mp z).2.2.2.1; rw [hc] at this; cases this)]
                simp -implicitDefEqProofs [F_is_shape, ok1, ab, ok3, ok4]
              | true =>
                rw [hc] at ok4
                have e : cB (ShP (.tup [.int (kn : Int), .tup rd, f, c, a])) = cB (AskP kn a) := cB_eq (by
                  rw [five, cB_iff]
                  unfold FiveP
                  rw [nk]
                  exact ⟨fun z => z.2.2.2.2, fun z => ⟨hk, hr, hf, hc, z⟩⟩)
                rw [e]
                simp -implicitDefEqProofs [F_is_shape, ok1, ab, ok3, ok4, ok5]
          · rw [cB_not hr] at ab
            rw [cB_not (fun z => hr (by have := (five.mp z).2.1; rwa [nk] at this))]
            simp -implicitDefEqProofs [F_is_shape, ok1, ab]
        | ref n =>
          rw [cB_not (nr fun _ e => by cases e)]
          have td : TN.tup.has .dic = some false := rfl
          rcases or.1.ty with z | z <;> simp -implicitDefEqProofs [F_is_shape, ok1, z, td]
        | rol _ => cases or.1
        | exn0 _ _ => cases or.1
        | exn1 _ _ _ _ _ => cases or.1
        | int b => rw [cB_not (nr fun _ e => by cases e)]; simp -implicitDefEqProofs [F_is_shape, ok1]
        | bl b => rw [cB_not (nr fun _ e => by cases e)]; simp -implicitDefEqProofs [F_is_shape, ok1]
        | non => rw [cB_not (nr fun _ e => by cases e)]; simp -implicitDefEqProofs [F_is_shape, ok1]
        | str s => rw [cB_not (nr fun _ e => by cases e)]; simp -implicitDefEqProofs [F_is_shape, ok1]
    · have no : ¬ ShP (.tup ds) := fun ⟨s, _, _, e⟩ => l5 (by unfold Sh.d at e; injection e with e; rw [e]; rfl)
      rw [cB_not no]
      have l5' : ¬ (ds.length : Int) = 5 := by omega
      simp -implicitDefEqProofs [F_is_shape, l5, l5']
  | ref n =>
    rw [cB_not (nt fun _ e => by cases e)]
    have td : TN.tup.has .dic = some false := rfl
    rcases o.1.ty with z | z <;> simp -implicitDefEqProofs [F_is_shape, z, td]
  | rol _ => cases o.1
  | exn0 _ _ => cases o.1
  | exn1 _ _ _ _ _ => cases o.1
  | int b => rw [cB_not (nt fun _ e => by cases e)]; simp -implicitDefEqProofs [F_is_shape]
  | bl b => rw [cB_not (nt fun _ e => by cases e)]; simp -implicitDefEqProofs [F_is_shape]
  | non => rw [cB_not (nt fun _ e => by cases e)]; simp -implicitDefEqProofs [F_is_shape]
  | str s => rw [cB_not (nt fun _ e => by cases e)]; simp -implicitDefEqProofs [F_is_shape]
theorem has_is_shape (A : All K mg) : Has P w K mg base 7 "is_shape" ["thing"] G_is_shape := Has.trim (has_of A.e_is_shape fun f fd F => ok_is_shape A.T (has_is_asked A) (has_in_range A) (has_are_blocks A) F) (trimF_ok F_is_shape)
/-! ### Stand___init__ -/
noncomputable def F_Stand___init__ : Fn := dDef 6 6 (dSeq (dIf (dNotT (dTru (dCall G_in_range (dCons (dVar 1) (dCons (dC (D.int 1)) (dCons (dC (D.int 9)) dNil)))))) (dRaiseF "NoStand" "part" (dC (D.str "keys"))) dSkip) (dSeq (dIf (dOrT (dNotT (dTru (dIs .lst (dVar 2)))) (dNotT (dTru (dCall G_are_blocks (dCons (dVar 2) (dCons (dVar 1) dNil)))))) (dRaiseF "NoStand" "part" (dC (D.str "blocks"))) dSkip) (dSeq (dIf (dNotT (dTru (dCall G_in_range (dCons (dVar 3) (dCons (dC (D.int 0)) (dCons (dC (D.int 9)) dNil)))))) (dRaiseF "NoStand" "part" (dC (D.str "fails"))) dSkip) (dSeq (dIf (dNotT (dTru (dCall G_in_range (dCons (dVar 4) (dCons (dC (D.int 0)) (dCons (dC (D.int 9)) dNil)))))) (dRaiseF "NoStand" "part" (dC (D.str "cuts"))) dSkip) (dSeq (dIf (dNotT (dTru (dCall G_is_asked (dCons (dVar 5) (dCons (dVar 1) dNil))))) (dRaiseF "NoStand" "part" (dC (D.str "asked"))) dSkip) (dPutF "Stand" "form" (dVar 0) (dTup (dCons (dVar 1) (dCons (dCB bTuple (dCons (dVar 2) dNil)) (dCons (dVar 3) (dCons (dVar 4) (dCons (dVar 5) dNil))))))))))))
theorem ok_Stand___init__ (T : Txt K mg) (h_in_range : Has P w K mg base 2 "in_range" ["thing", "low", "high"] G_in_range) (h_is_asked : Has P w K mg base 3 "is_asked" ["thing", "keys"] G_is_asked) (h_are_blocks : Has P w K mg base 6 "are_blocks" ["rows", "keys"] G_are_blocks) (h_NoStand : ErrF P w K mg base "NoStand" "part") {f : Addr} {fd : FuncData} (F : Fun K "__init__" "Stand.__init__" s_Stand___init__ f fd) : FnOk P w K mg base (L2.CX P w) 7 f fd ["self", "keys", "blocks", "fails", "cuts", "asked"] (spD K mg F_Stand___init__) := by
  refine fn_ok F sc_Stand___init__ (fun cdv A outer s H E hr => ?_)
  have nd := sc_Stand___init__.nd
  have hp := passes_of (X := cxOf (L2.CX P w) P w K mg base ["self", "keys", "blocks", "fails", "cuts", "asked"] "Stand.__init__" (defScope s_Stand___init__) f cdv A outer s H E) (K := fun e s'' => L2.CX P w outer H s E e s'') rfl
  have tk := takes_of (X := cxOf (L2.CX P w) P w K mg base ["self", "keys", "blocks", "fails", "cuts", "asked"] "Stand.__init__" (defScope s_Stand___init__) f cdv A outer s H E) (E := E) rfl rfl rfl rfl
  exact (dss_cons (ds_if (dt_not (dt_tru (de_has h_in_range hr (by decide) tk (da_cons (de_var 1) (da_cons de_int (da_cons de_int da_nil)))))) (dss_one (ds_raiseF rfl tk h_NoStand hr (by decide) de_str)) dss_nil) (dss_cons (ds_if (PW.pt (dw_or (dt_not (dt_tru (de_is .lst (by decide) T.n_isinstance T.n_list (de_var 2)))) (dw_or1 (dt_not (dt_tru (de_has h_are_blocks hr (by decide) tk (da_cons (de_var 2) (da_cons (de_var 1) da_nil)))))))) (dss_one (ds_raiseF rfl tk h_NoStand hr (by decide) de_str)) dss_nil) (dss_cons (ds_if (dt_not (dt_tru (de_has h_in_range hr (by decide) tk (da_cons (de_var 3) (da_cons de_int (da_cons de_int da_nil)))))) (dss_one (ds_raiseF rfl tk h_NoStand hr (by decide) de_str)) dss_nil) (dss_cons (ds_if (dt_not (dt_tru (de_has h_in_range hr (by decide) tk (da_cons (de_var 4) (da_cons de_int (da_cons de_int da_nil)))))) (dss_one (ds_raiseF rfl tk h_NoStand hr (by decide) de_str)) dss_nil) (dss_cons (ds_if (dt_not (dt_tru (de_has h_is_asked hr (by decide) tk (da_cons (de_var 5) (da_cons (de_var 1) da_nil))))) (dss_one (ds_raiseF rfl tk h_NoStand hr (by decide) de_str)) dss_nil) (dss_one (ds_fld T.o_Stand T.n_Stand_form (de_var 0) (de_tup (da_cons (de_var 1) (da_cons (de_callTy call_tupX cs_tuple T.n_tuple (da_cons (de_var 2) da_nil)) (da_cons (de_var 3) (da_cons (de_var 4) (da_cons (de_var 5) da_nil)))))))))))))
noncomputable def G_Stand___init__ : Fn := trimF F_Stand___init__
theorem eq_init {s : Sh} {np : Nat} (ok : s.ok np) {h : DH} {n m : Nat} (hn : h[n]? = some (.obj "Stand" [])) (hm : h[m]? = some (.lst (s.rows.map Bk.d))) :
    G_Stand___init__ [.ref n, .int (s.keys : Int), .ref m, .int (s.fails : Int), .int (s.cuts : Int), optD s.asked] h = .ok .non (h.set n (stObj s)) := by
  have keys := ok.keys
  have ab := eq_are_blocks hm ok.many ok.pages ok.rows ok.once
  have ia := eq_is_asked h ok.asked
  have k1 : (1 : Int) ≤ s.keys := by omega
  have k2 : (s.keys : Int) ≤ 9 := by omega
  have f1 : (0 : Int) ≤ s.fails := by omega
  have f2 : (s.fails : Int) ≤ 9 := by have := ok.fails; omega
  have c1 : (0 : Int) ≤ s.cuts := by omega
  have c2 : (s.cuts : Int) ≤ 9 := by have := ok.cuts; omega
  have pf := putF_at (v := s.d) (f := "form") hn (by decide)
  refine trim_val' (g := []) ?_ ((Kept.refl h).set (stObj_cl s)) rfl
  have td : D.tup [.int (s.keys : Int), .tup (s.rows.map Bk.d), .int (s.fails : Int), .int (s.cuts : Int), optD s.asked] = s.d := rfl
  simp -implicitDefEqProofs [F_Stand___init__, eq_in_range, k1, k2, f1, f2, c1, c2, tyD_lst hm, ab, ia, tuple_at, hm, td, pf]
  rfl
theorem has_Stand___init__ (A : All K mg) : HasIK P w K mg base 7 "Stand" ["self", "keys", "blocks", "fails", "cuts", "asked"] "asked" D.non G_Stand___init__ := HasIK.trim (hasIK_of A.e_Stand___init__ fun f fd F => ok_Stand___init__ A.T (has_in_range A) (has_is_asked A) (has_are_blocks A) (err_NoStand A) F) (trimF_ok F_Stand___init__)
/-! ### Stand___eq__ -/
noncomputable def F_Stand___eq__ : Fn := dDef 2 2 (dRet (dAndV (dIsZ "Stand" (dVar 1)) (dBin oEq (dFld "Stand" "form" (dVar 0)) (dFld "Stand" "form" (dVar 1)))))
theorem ok_Stand___eq__ (T : Txt K mg)  {f : Addr} {fd : FuncData} (F : Fun K "__eq__" "Stand.__eq__" s_Stand___eq__ f fd) : FnOk P w K mg base (L2.CX P w) 1 f fd ["self", "other"] (spD K mg F_Stand___eq__) := by
  refine fn_ok F sc_Stand___eq__ (fun cdv A outer s H E hr => ?_)
  have nd := sc_Stand___eq__.nd
  have hp := passes_of (X := cxOf (L2.CX P w) P w K mg base ["self", "other"] "Stand.__eq__" (defScope s_Stand___eq__) f cdv A outer s H E) (K := fun e s'' => L2.CX P w outer H s E e s'') rfl
  have tk := takes_of (X := cxOf (L2.CX P w) P w K mg base ["self", "other"] "Stand.__eq__" (defScope s_Stand___eq__) f cdv A outer s H E) (E := E) rfl rfl rfl rfl
  exact (dss_one (ds_ret (de_and (de_isZ T.io_Stand T.n_isinstance (de_var 1)) (de_one (de_cmp (op_eqX hr.units) os_eq (de_fld T.o_Stand T.n_Stand_form (de_var 0)) (de_fld T.o_Stand T.n_Stand_form (de_var 1)))))))
noncomputable def G_Stand___eq__ : Fn := trimF F_Stand___eq__
theorem sh_items (s : Sh) : plainD 4 (.tup [.int (s.keys : Int), s.rd, .int (s.fails : Int), .int (s.cuts : Int), optD s.asked]) = true := s.pl
theorem sh_eq (s t : Sh) : ∃ b : Bool, (b = true ↔ s.d = t.d) ∧ ∀ h, oEq s.d t.d h = .ok (.bl b) h := by
  have key := fun h => oEq_tp (h := h) (n := 4) (m := 4) (ds := [.int (s.keys : Int), s.rd, .int (s.fails : Int), .int (s.cuts : Int), optD s.asked]) (es := [.int (t.keys : Int), t.rd, .int (t.fails : Int), .int (t.cuts : Int), optD t.asked]) (sh_items s) (sh_items t) (by decide) (by decide)
  obtain ⟨b, hb, e, _⟩ := key []
  have dd : s.d = t.d ↔ [D.int (s.keys : Int), s.rd, .int (s.fails : Int), .int (s.cuts : Int), optD s.asked] = [.int (t.keys : Int), t.rd, .int (t.fails : Int), .int (t.cuts : Int), optD t.asked] := by
    unfold Sh.d
    rw [D.tup.injEq]
  refine ⟨b, hb.trans dd.symm, fun h => ?_⟩
  obtain ⟨b2, hb2, e2, _⟩ := key h
  have : b2 = b := by
    rw [Bool.eq_iff_iff, hb2, hb]
  rw [← this]
  exact e2
theorem eqz_eq {s t : Sh} {h : DH} {n m : Nat} (hn : h[n]? = some (stObj s)) (hm : h[m]? = some (stObj t)) {b : Bool} (e : ∀ h, oEq s.d t.d h = .ok (.bl b) h) : eqZ "Stand" G_Stand___eq__ (.ref n) (.ref m) h = .ok (.bl b) h := by
  have i1 : isTy "Stand" (.ref m) h = some true := isTy_ins hm
  refine eqZ_at hn i1 (trim_same ?_)
  simp -implicitDefEqProofs [F_Stand___eq__, i1, fld_form hn, fld_form hm, e]
theorem eqz_no {s : Sh} {h : DH} {n : Nat} {y : D} (hn : h[n]? = some (stObj s)) (hy : isTy "Stand" y h = some false) : eqZ "Stand" G_Stand___eq__ (.ref n) y h = .ok (.bl false) h := by
  refine eqZ_at hn hy (trim_same ?_)
  simp -implicitDefEqProofs [F_Stand___eq__, hy]

theorem has_Stand___eq__ (A : All K mg) : HasM P w K mg base 1 "Stand" "__eq__" ["self", "other"] G_Stand___eq__ := HasM.trim (hasM_of A.e_Stand___eq__ fun f fd F => ok_Stand___eq__ A.T  F) (trimF_ok F_Stand___eq__)
/-! ### Stand_shape -/
noncomputable def F_Stand_shape : Fn := dDef 1 1 (dRet (dFld "Stand" "form" (dVar 0)))
theorem ok_Stand_shape (T : Txt K mg)  {f : Addr} {fd : FuncData} (F : Fun K "shape" "Stand.shape" s_Stand_shape f fd) : FnOk P w K mg base (L2.CX P w) 1 f fd ["self"] (spD K mg F_Stand_shape) := by
  refine fn_ok F sc_Stand_shape (fun cdv A outer s H E hr => ?_)
  have nd := sc_Stand_shape.nd
  have hp := passes_of (X := cxOf (L2.CX P w) P w K mg base ["self"] "Stand.shape" (defScope s_Stand_shape) f cdv A outer s H E) (K := fun e s'' => L2.CX P w outer H s E e s'') rfl
  have tk := takes_of (X := cxOf (L2.CX P w) P w K mg base ["self"] "Stand.shape" (defScope s_Stand_shape) f cdv A outer s H E) (E := E) rfl rfl rfl rfl
  exact (dss_one (ds_ret (de_fld T.o_Stand T.n_Stand_form (de_var 0))))
noncomputable def G_Stand_shape : Fn := trimF F_Stand_shape
theorem eq_shape {s : Sh} {h : DH} {n : Nat} (hn : h[n]? = some (stObj s)) : G_Stand_shape [.ref n] h = .ok s.d h := by
  refine trim_same ?_ s.cl
  simp -implicitDefEqProofs [F_Stand_shape, fld_form hn]
theorem has_Stand_shape (A : All K mg) : HasM P w K mg base 1 "Stand" "shape" ["self"] G_Stand_shape := HasM.trim (hasM_of A.e_Stand_shape fun f fd F => ok_Stand_shape A.T  F) (trimF_ok F_Stand_shape)
/-! ### standing -/
noncomputable def F_standing : Fn := dDef 1 2 (dSeq (dSet 1 (dMakeD "Stand" G_Stand___init__ D.non (dCons (dC (D.int 1)) (dCons (dLst (dCons (dTup (dCons (dC (D.int 0)) (dCons (dTup (dCons (dC (D.str "old")) dNil)) dNil))) dNil)) (dCons (dC (D.int 0)) (dCons (dC (D.int 0)) dNil)))))) (dSeq (dPutF "Stand" "form" (dVar 1) (dVar 0)) (dRet (dVar 1))))
theorem ok_standing (T : Txt K mg) (h_Stand___init__ : HasIK P w K mg base 7 "Stand" ["self", "keys", "blocks", "fails", "cuts", "asked"] "asked" D.non G_Stand___init__) {f : Addr} {fd : FuncData} (F : Fun K "standing" "standing" s_standing f fd) : FnOk P w K mg base (L2.CX P w) 9 f fd ["form"] (spD K mg F_standing) := by
  refine fn_ok F sc_standing (fun cdv A outer s H E hr => ?_)
  have nd := sc_standing.nd
  have hp := passes_of (X := cxOf (L2.CX P w) P w K mg base ["form", "made"] "standing" (defScope s_standing) f cdv A outer s H E) (K := fun e s'' => L2.CX P w outer H s E e s'') rfl
  have tk := takes_of (X := cxOf (L2.CX P w) P w K mg base ["form", "made"] "standing" (defScope s_standing) f cdv A outer s H E) (E := E) rfl rfl rfl rfl
  exact (dss_cons (ds_set 1 nd (de_makeD h_Stand___init__ hr (by decide) tk (da_cons de_int (da_cons (de_lst (da_cons (de_tup (da_cons de_int (da_cons (de_tup (da_cons de_str da_nil)) da_nil))) da_nil)) (da_cons de_int (da_cons de_int da_nil)))))) (dss_cons (ds_fld T.o_Stand T.n_Stand_form (de_var 1) (de_var 0)) (dss_one (ds_ret (de_var 1)))))
noncomputable def G_standing : Fn := trimF F_standing
theorem eq_standing (s : Sh) (h : DH) : G_standing [s.d] h = .ok (.ref h.length) (h ++ [stObj s]) := by
  have i := eq_init sh1_ok (h := h ++ [.lst [.tup [.int 0, .tup [.str "old"]]], .obj "Stand" []]) (n := h.length + 1) (m := h.length) hp_k hp_0
  rw [hs_k] at i
  have pf := putF_at (h := h ++ [.lst [.tup [.int 0, .tup [.str "old"]]], stObj sh1]) (n := h.length + 1) (c := "Stand") (fs := formF sh1) (v := s.d) (f := "form") hp_k (by decide)
  have e : putFD "form" s.d (formF sh1) = formF s := by
    unfold formF putFD
    rw [if_pos rfl]
  rw [hs_k, e] at pf
  refine trim_new (i := 1) (g := [.lst [.tup [.int 0, .tup [.str "old"]]], stObj s]) ?_ rfl (stObj_cl s)
  have i' : G_Stand___init__ [.ref (h.length + 1), .int 1, .ref h.length, .int 0, .int 0, .non] (h ++ [.lst [.tup [.int 0, .tup [.str "old"]]], .obj "Stand" []]) = .ok .non (h ++ [.lst [.tup [.int 0, .tup [.str "old"]]], stObj sh1]) := i
  simp -implicitDefEqProofs [F_standing, newD, i', pf]
  rfl
theorem has_standing (A : All K mg) : Has P w K mg base 9 "standing" ["form"] G_standing := Has.trim (has_of A.e_standing fun f fd F => ok_standing A.T (has_Stand___init__ A) F) (trimF_ok F_standing)
/-! ### stand_of -/
noncomputable def F_stand_of : Fn := dDef 1 1 (dSeq (dIf (dNotT (dTru (dCall G_is_shape (dCons (dVar 0) dNil)))) (dRaiseF "NoStand" "part" (dC (D.str "shape"))) dSkip) (dRet (dCall G_standing (dCons (dVar 0) dNil))))
theorem ok_stand_of (T : Txt K mg) (h_standing : Has P w K mg base 9 "standing" ["form"] G_standing) (h_is_shape : Has P w K mg base 7 "is_shape" ["thing"] G_is_shape) (h_NoStand : ErrF P w K mg base "NoStand" "part") {f : Addr} {fd : FuncData} (F : Fun K "stand_of" "stand_of" s_stand_of f fd) : FnOk P w K mg base (L2.CX P w) 10 f fd ["shape"] (spD K mg F_stand_of) := by
  refine fn_ok F sc_stand_of (fun cdv A outer s H E hr => ?_)
  have nd := sc_stand_of.nd
  have hp := passes_of (X := cxOf (L2.CX P w) P w K mg base ["shape"] "stand_of" (defScope s_stand_of) f cdv A outer s H E) (K := fun e s'' => L2.CX P w outer H s E e s'') rfl
  have tk := takes_of (X := cxOf (L2.CX P w) P w K mg base ["shape"] "stand_of" (defScope s_stand_of) f cdv A outer s H E) (E := E) rfl rfl rfl rfl
  exact (dss_cons (ds_if (dt_not (dt_tru (de_has h_is_shape hr (by decide) tk (da_cons (de_var 0) da_nil)))) (dss_one (ds_raiseF rfl tk h_NoStand hr (by decide) de_str)) dss_nil) (dss_one (ds_ret (de_has h_standing hr (by decide) tk (da_cons (de_var 0) da_nil)))))
noncomputable def G_stand_of : Fn := trimF F_stand_of
theorem eq_stand_of {s : Sh} {np : Nat} (ok : s.ok np) (h : DH) : G_stand_of [s.d] h = .ok (.ref h.length) (h ++ [stObj s]) := by
  refine trim_new0 (g := []) ?_ (stObj_cl s)
  simp -implicitDefEqProofs [F_stand_of, eq_is_shape ok, eq_standing]

theorem no_stand_of {x : D} {h : DH} (o : OkN h 4 x) (no : ¬ ShP x) : G_stand_of [x] h = .exc ⟨"NoStand", [("part", .str "shape")]⟩ h := by
  have e := any_shape o
  rw [cB_not no] at e
  refine trim_excF (g := []) ?_ rfl
  simp -implicitDefEqProofs [F_stand_of, e, RS.of, dC, dThen]

theorem has_stand_of (A : All K mg) : Has P w K mg base 10 "stand_of" ["shape"] G_stand_of := Has.trim (has_of A.e_stand_of fun f fd F => ok_stand_of A.T (has_standing A) (has_is_shape A) (err_NoStand A) F) (trimF_ok F_stand_of)
/-! ### _law_cell -/
noncomputable def F__law_cell : Fn := dDef 2 3 (dSeq (dIf (dTest (dBin oLt (dVar 1) (dCB bLen (dCons (dVar 0) dNil)))) (dRet (dCB bInt (dCons (dBin oIx (dVar 0) (dVar 1)) dNil))) dSkip) (dSeq (dSet 2 (dC (D.int 0))) (dSeq (dIf (dTest (dBin oGt (dCB bLen (dCons (dVar 0) dNil)) (dC (D.int 0)))) (dSet 2 (dCB bInt (dCons (dBin oIx (dVar 0) (dC (D.int 0))) dNil))) dSkip) (dRet (dBin oMod (dCB bInt (dCons (dBin oMul (dBin oAdd (dVar 2) (dBin oMul (dC (D.int 7919)) (dVar 1))) (dC (D.int 48271))) dNil)) (dC (D.int 2147483647)))))))
theorem ok__law_cell (T : Txt K mg)  {f : Addr} {fd : FuncData} (F : Fun K "_law_cell" "_law_cell" s__law_cell f fd) : FnOk P w K mg base (L2.CX P w) 1 f fd ["_law_script", "_law_k"] (spD K mg F__law_cell) := by
  refine fn_ok F sc__law_cell (fun cdv A outer s H E hr => ?_)
  have nd := sc__law_cell.nd
  have hp := passes_of (X := cxOf (L2.CX P w) P w K mg base ["_law_script", "_law_k", "_law_first"] "_law_cell" (defScope s__law_cell) f cdv A outer s H E) (K := fun e s'' => L2.CX P w outer H s E e s'') rfl
  have tk := takes_of (X := cxOf (L2.CX P w) P w K mg base ["_law_script", "_law_k", "_law_first"] "_law_cell" (defScope s__law_cell) f cdv A outer s H E) (E := E) rfl rfl rfl rfl
  exact (dss_cons (ds_if (dt_cmp op_lt os_ord (de_var 1) (de_callB call_len cs_len T.n_len (da_cons (de_var 0) da_nil))) (dss_one (ds_ret (de_callTy call_intX cs_int T.n_int (da_cons (de_ix (hu_of hr) (de_var 0) (de_var 1)) da_nil)))) dss_nil) (dss_cons (ds_set 2 nd de_int) (dss_cons (ds_if (dt_cmp op_gt os_ord (de_callB call_len cs_len T.n_len (da_cons (de_var 0) da_nil)) de_int) (dss_one (ds_set 2 nd (de_callTy call_intX cs_int T.n_int (da_cons (de_ix (hu_of hr) (de_var 0) de_int) da_nil)))) dss_nil) (dss_one (ds_ret (de_op op_mod os_mod (de_callTy call_intX cs_int T.n_int (da_cons (de_op op_mulX os_mul (de_op op_addX os_add (de_var 2) (de_op op_mulX os_mul de_int (de_var 1))) de_int) da_nil)) de_int))))))
noncomputable def G__law_cell : Fn := trimF F__law_cell
theorem eq__law_cell (ns : List Int) (k : Nat) (h : DH) (hk : k < 1000) : G__law_cell [script ns, .int (k : Int)] h = .ok (.int (cellNo ns k)) h := by
  refine trim_same ?_
  unfold cellNo
  cases e : ns[k]? with
  | some c =>
    have kl := (List.getElem?_eq_some_iff.mp e).1
    have q : L2.atI (ns.map D.int) (k : Int) = some (.int c) := atI_n (by rw [List.getElem?_map, e]; rfl)
    simp -implicitDefEqProofs [F__law_cell, script, kl, oIx_rolX, q]
  | none =>
    have kl : ¬ k < ns.length := by have := List.getElem?_eq_none_iff.mp e; omega
    cases ns with
    | nil =>
      have k0 : ¬ (k : Int) < 0 := by omega
      simp -implicitDefEqProofs (disch := omega) [F__law_cell, script, oMul_r, oMul_l, oMod_int, k0]
    | cons a r =>
      have k0 : ¬ (k : Int) < (r.length : Int) + 1 := by rw [List.length_cons] at kl; omega
      have k1 : (0 : Int) < (r.length : Int) + 1 := by omega
      simp -implicitDefEqProofs (disch := omega) [F__law_cell, script, k0, k1, oIx_rolX, atI_0, oMul_r, oMul_l, oMod_int]
      rfl

theorem has__law_cell (A : All K mg) : Has P w K mg base 1 "_law_cell" ["_law_script", "_law_k"] G__law_cell := Has.trim (has_of A.e__law_cell fun f fd F => ok__law_cell A.T  F) (trimF_ok F__law_cell)
/-! ### _law_mixed -/
noncomputable def F__law_mixed : Fn := dDef 2 3 (dSeq (dSet 2 (dBin oMod (dCB bInt (dCons (dBin oMul (dBin oAdd (dBin oAdd (dVar 0) (dBin oMul (dC (D.int 7919)) (dVar 1))) (dC (D.int 1))) (dC (D.int 48271))) dNil)) (dC (D.int 2147483647)))) (dSeq (dSet 2 (dBin oMod (dCB bInt (dCons (dBin oMul (dVar 2) (dBin oAdd (dBin oDiv (dVar 2) (dC (D.int 1009))) (dC (D.int 69621)))) dNil)) (dC (D.int 2147483647)))) (dRet (dBin oMod (dCB bInt (dCons (dBin oMul (dVar 2) (dBin oAdd (dBin oDiv (dVar 2) (dC (D.int 2003))) (dC (D.int 40692)))) dNil)) (dC (D.int 2147483399))))))
theorem ok__law_mixed (T : Txt K mg)  {f : Addr} {fd : FuncData} (F : Fun K "_law_mixed" "_law_mixed" s__law_mixed f fd) : FnOk P w K mg base (L2.CX P w) 1 f fd ["_law_cell_here", "_law_k"] (spD K mg F__law_mixed) := by
  refine fn_ok F sc__law_mixed (fun cdv A outer s H E hr => ?_)
  have nd := sc__law_mixed.nd
  have hp := passes_of (X := cxOf (L2.CX P w) P w K mg base ["_law_cell_here", "_law_k", "_law_number"] "_law_mixed" (defScope s__law_mixed) f cdv A outer s H E) (K := fun e s'' => L2.CX P w outer H s E e s'') rfl
  have tk := takes_of (X := cxOf (L2.CX P w) P w K mg base ["_law_cell_here", "_law_k", "_law_number"] "_law_mixed" (defScope s__law_mixed) f cdv A outer s H E) (E := E) rfl rfl rfl rfl
  exact (dss_cons (ds_set 2 nd (de_op op_mod os_mod (de_callTy call_intX cs_int T.n_int (da_cons (de_op op_mulX os_mul (de_op op_addX os_add (de_op op_addX os_add (de_var 0) (de_op op_mulX os_mul de_int (de_var 1))) de_int) de_int) da_nil)) de_int)) (dss_cons (ds_set 2 nd (de_op op_mod os_mod (de_callTy call_intX cs_int T.n_int (da_cons (de_op op_mulX os_mul (de_var 2) (de_op op_addX os_add (de_op op_fdivW os_div (de_var 2) de_int) de_int)) da_nil)) de_int)) (dss_one (ds_ret (de_op op_mod os_mod (de_callTy call_intX cs_int T.n_int (da_cons (de_op op_mulX os_mul (de_var 2) (de_op op_addX os_add (de_op op_fdivW os_div (de_var 2) de_int) de_int)) da_nil)) de_int)))))
noncomputable def G__law_mixed : Fn := trimF F__law_mixed
theorem eq__law_mixed (c k : Int) (h : DH) : G__law_mixed [.int c, .int k] h = .ok (.int (mixed c k)) h := by
  refine trim_same ?_
  have b1 := mod_of (x := (c + 7919 * k + 1) * 48271) (s := 2147483647) (by decide)
  have b2 := mod_of (x := ((c + 7919 * k + 1) * 48271 % 2147483647) * ((c + 7919 * k + 1) * 48271 % 2147483647 / 1009 + 69621)) (s := 2147483647) (by decide)
  simp -implicitDefEqProofs (disch := omega) [F__law_mixed, oMul_r, oMul_l, oDiv_int, oMod_int, mixed]
theorem has__law_mixed (A : All K mg) : Has P w K mg base 1 "_law_mixed" ["_law_cell_here", "_law_k"] G__law_mixed := Has.trim (has_of A.e__law_mixed fun f fd F => ok__law_mixed A.T  F) (trimF_ok F__law_mixed)
/-! ### _law_digits -/
noncomputable def B__law_digits_1 : FS := (dSeq (dDrop (dBM "list" mAppend (dVar 2) (dCons (dBin oMod (dCB bInt (dCons (dVar 0) dNil)) (dVar 3)) dNil))) (dSet 0 (dBin oDiv (dVar 0) (dVar 3))))
noncomputable def B__law_digits_2 : FS := (dDrop (dBM "list" mAppend (dVar 2) (dCons (dBin oMod (dCB bInt (dCons (dBin oDiv (dCall G__law_mixed (dCons (dVar 0) (dCons (dVar 4) dNil))) (dC (D.int 16))) dNil)) (dBin oIx (dVar 1) (dVar 4))) dNil)))
noncomputable def F__law_digits : Fn := dDef 2 5 (dSeq (dSet 2 (dLst dNil)) (dSeq (dIf (dTest (dBin oGe (dVar 0) (dBin oPow (dC (D.int 10)) (dC (D.int 18))))) (dSeq (dFor (dIter (dVar 1)) (gN 3) B__law_digits_1) (dRet (dVar 2))) dSkip) (dSeq (dFor (dRng (dCons (dCB bLen (dCons (dVar 1) dNil)) dNil)) (gN 4) B__law_digits_2) (dRet (dVar 2)))))
theorem ok__law_digits (T : Txt K mg) (h__law_mixed : Has P w K mg base 1 "_law_mixed" ["_law_cell_here", "_law_k"] G__law_mixed) {f : Addr} {fd : FuncData} (F : Fun K "_law_digits" "_law_digits" s__law_digits f fd) : FnOk P w K mg base (L2.CX P w) 2 f fd ["_law_cell_here", "_law_sizes"] (spD K mg F__law_digits) := by
  refine fn_ok F sc__law_digits (fun cdv A outer s H E hr => ?_)
  have nd := sc__law_digits.nd
  have hp := passes_of (X := cxOf (L2.CX P w) P w K mg base ["_law_cell_here", "_law_sizes", "_law_row", "_law_size", "_law_k"] "_law_digits" (defScope s__law_digits) f cdv A outer s H E) (K := fun e s'' => L2.CX P w outer H s E e s'') rfl
  have tk := takes_of (X := cxOf (L2.CX P w) P w K mg base ["_law_cell_here", "_law_sizes", "_law_row", "_law_size", "_law_k"] "_law_digits" (defScope s__law_digits) f cdv A outer s H E) (E := E) rfl rfl rfl rfl
  exact (dss_cons (ds_set 2 nd (de_lst da_nil)) (dss_cons (ds_if (dt_cmp op_ge os_ord (de_var 0) (de_op op_pow os_pow de_int de_int)) (dss_cons (ds_for hp rfl (di_any (de_var 1)) (dg_name 3 nd) (dss_cons (ds_expr (de_bm mt_append ms_append PySem.F.plainAttrs_list PySem.F.slot_list_append PySem.F.type_list_append (de_var 2) (da_cons (de_op op_mod os_mod (de_callTy call_intX cs_int T.n_int (da_cons (de_var 0) da_nil)) (de_var 3)) da_nil))) (dss_one (ds_set 0 nd (de_op op_fdivW os_div (de_var 0) (de_var 3)))))) (dss_one (ds_ret (de_var 2)))) dss_nil) (dss_cons (ds_for hp rfl (di_rng1 T.n_range (da_cons (de_callB call_len cs_len T.n_len (da_cons (de_var 1) da_nil)) da_nil)) (dg_name 4 nd) (dss_one (ds_expr (de_bm mt_append ms_append PySem.F.plainAttrs_list PySem.F.slot_list_append PySem.F.type_list_append (de_var 2) (da_cons (de_op op_mod os_mod (de_callTy call_intX cs_int T.n_int (da_cons (de_op op_fdivW os_div (de_has h__law_mixed hr (by decide) tk (da_cons (de_var 0) (da_cons (de_var 4) da_nil))) de_int) da_nil)) (de_ix (hu_of hr) (de_var 1) (de_var 4))) da_nil))))) (dss_one (ds_ret (de_var 2))))))
noncomputable def G__law_digits : Fn := trimF F__law_digits
theorem eq__law_digits (c : Int) (n : Nat) (sizes : List Int) (h : DH) (hn : h[n]? = some (.lst (sizes.map D.int))) (hs : ∀ s ∈ sizes, okSize s) (hl : sizes.length < 1000) :
    G__law_digits [.int c, .ref n] h = .ok (.ref h.length) (h ++ [.lst ((digits c sizes).map D.int)]) := by
  refine trim_new0 (g := []) ?_ (closeds_map (fun _ => rfl) _)
  have hn1 : ∀ a, (h ++ [Cell.lst a])[n]? = some (.lst (sizes.map D.int)) := fun a => at_old hn
  have p18 : (10 : Int) ^ (18 : Int).toNat = 10 ^ 18 := rfl
  have len : ∀ a, (h ++ [Cell.lst a]).length = h.length + 1 := fun a => by simp
  have lt : n < h.length := lt_of_at hn
  by_cases hc : (10 : Int) ^ 18 ≤ c
  · obtain ⟨σ', e1, e2⟩ := loop_big (keep := fun h' => h'[n]? = some (.lst (sizes.map D.int))) (h := h) (n := .ref n) (x4 := none) (b := B__law_digits_1) hn1 (fun c s row ok hr => by
      simp -implicitDefEqProofs (disch := first | omega | assumption) [B__law_digits_1, oMod_int ok.1, oDiv_big ok, rcv_lst at_new, mAppend_lst at_new]) sizes c [] none hs (by simpa using hl)
    have hc2 : 1000000000000000000 ≤ c := hc
    simp -implicitDefEqProofs (disch := omega) [F__law_digits, oPow_int, iterS_ref (hn1 _), bLen_lst (hn1 _), p18, hc2, e1, e2, digits]
  · obtain ⟨σ', e1, e2⟩ := loop_small (keep := fun _ => True) (h := h) (n := .ref n) (c := c) (x3 := none) (sizes := sizes) (b := B__law_digits_2) (fun _ => trivial) (fun k s row hk hr => by
      have ok := hs s (List.mem_of_getElem? hk)
      have q : L2.atI (sizes.map D.int) (k : Int) = some (.int s) := atI_nat (by rw [List.getElem?_map, hk]; rfl)
      simp -implicitDefEqProofs (disch := first | omega | assumption) [B__law_digits_2, oMod_int ok.1, oDiv_int, rcv_lst at_new, mAppend_lst at_new, eq__law_mixed, oIx_lst (hn1 _) q]) sizes 0 [] none rfl (by simpa using hl)
    have hc2 : ¬ 1000000000000000000 ≤ c := hc
    have hz : (0 : Int) ≤ sizes.length ∧ (sizes.length : Int) ≤ 1000000000 := by omega
    have rg : rngD 0 sizes.length = (List.range' 0 sizes.length).map fun (i : Nat) => D.int ((i : Nat) : Int) := by
      unfold rngD
      rw [List.range_eq_range']
      simp
    clear hc hl lt len hs
    simp -implicitDefEqProofs (disch := first | assumption | omega) [F__law_digits, oPow_int, iterS_ref (hn1 _), bLen_lst (hn1 _), p18, hc2, digits, rngS_one hz, rg, e1, e2]

theorem has__law_digits (A : All K mg) : Has P w K mg base 2 "_law_digits" ["_law_cell_here", "_law_sizes"] G__law_digits := Has.trim (has_of A.e__law_digits fun f fd F => ok__law_digits A.T (has__law_mixed A) F) (trimF_ok F__law_digits)
/-! ### _law_same -/
noncomputable def B__law_same_1 (F_rec : Fn) : FS := (dIf (dNotT (dTru (dCall (F_rec) (dCons (dBin oIx (dVar 0) (dVar 2)) (dCons (dBin oIx (dVar 1) (dVar 2)) dNil))))) (dRet (dC (D.bl false))) dSkip)
noncomputable def F__law_same : Nat → Fn
  | 0 => fun _ _ => .bad
  | n + 1 => dDef 2 3 (dSeq (dIf (dTest (dBin oIsN (dVar 1) (dC D.non))) (dRet (dBin oIsN (dVar 0) (dC D.non))) dSkip) (dSeq (dIf (dTest (dBin oIsN (dVar 1) (dC (D.bl true)))) (dRet (dBin oIsN (dVar 0) (dC (D.bl true)))) dSkip) (dSeq (dIf (dTest (dBin oIsN (dVar 1) (dC (D.bl false)))) (dRet (dBin oIsN (dVar 0) (dC (D.bl false)))) dSkip) (dSeq (dIf (dTru (dIs .int (dVar 1))) (dRet (dAndV (dIs .int (dVar 0)) (dAndV (dNotV (dIs .bl (dVar 0))) (dBin oEq (dVar 0) (dVar 1))))) dSkip) (dSeq (dIf (dTru (dIs .str (dVar 1))) (dRet (dAndV (dIs .str (dVar 0)) (dBin oEq (dVar 0) (dVar 1)))) dSkip) (dSeq (dIf (dAndT (dTru (dIs .tup (dVar 1))) (dNotT (dTru (dIs .tup (dVar 0))))) (dRet (dC (D.bl false))) dSkip) (dSeq (dIf (dAndT (dTru (dIs .lst (dVar 1))) (dNotT (dTru (dIs .lst (dVar 0))))) (dRet (dC (D.bl false))) dSkip) (dSeq (dIf (dTest (dBin oNe (dCB bLen (dCons (dVar 0) dNil)) (dCB bLen (dCons (dVar 1) dNil)))) (dRet (dC (D.bl false))) dSkip) (dSeq (dFor (dRng (dCons (dCB bLen (dCons (dVar 1) dNil)) dNil)) (gN 2) (B__law_same_1 (F__law_same n))) (dRet (dC (D.bl true))))))))))))
theorem step__law_same {n k : Nat} (hk : 0 ≤ k) (T : Txt K mg)  (h_rec : Has P w K mg base k "_law_same" ["_law_got", "_law_due"] (F__law_same n)) {f : Addr} {fd : FuncData} (F : Fun K "_law_same" "_law_same" s__law_same f fd) : FnOk P w K mg base (L2.CX P w) (k + 1) f fd ["_law_got", "_law_due"] (spD K mg (F__law_same (n + 1))) := by
  refine fn_ok F sc__law_same (fun cdv A outer s H E hr => ?_)
  have nd := sc__law_same.nd
  have hp := passes_of (X := cxOf (L2.CX P w) P w K mg base ["_law_got", "_law_due", "_law_k"] "_law_same" (defScope s__law_same) f cdv A outer s H E) (K := fun e s'' => L2.CX P w outer H s E e s'') rfl
  have tk := takes_of (X := cxOf (L2.CX P w) P w K mg base ["_law_got", "_law_due", "_law_k"] "_law_same" (defScope s__law_same) f cdv A outer s H E) (E := E) rfl rfl rfl rfl
  exact (dss_cons (ds_if (dt_cmp op_isX os_is (de_var 1) de_non) (dss_one (ds_ret (de_cmp op_isX os_is (de_var 0) de_non))) dss_nil) (dss_cons (ds_if (dt_cmp op_isX os_is (de_var 1) de_bl) (dss_one (ds_ret (de_cmp op_isX os_is (de_var 0) de_bl))) dss_nil) (dss_cons (ds_if (dt_cmp op_isX os_is (de_var 1) de_bl) (dss_one (ds_ret (de_cmp op_isX os_is (de_var 0) de_bl))) dss_nil) (dss_cons (ds_if (dt_tru (de_is .int (by decide) T.n_isinstance T.n_int (de_var 1))) (dss_one (ds_ret (de_and (de_is .int (by decide) T.n_isinstance T.n_int (de_var 0)) (de_and (de_not (de_is .bl (by decide) T.n_isinstance T.n_bool (de_var 0))) (de_one (de_cmp (op_eqX hr.units) os_eq (de_var 0) (de_var 1))))))) dss_nil) (dss_cons (ds_if (dt_tru (de_is .str (by decide) T.n_isinstance T.n_str (de_var 1))) (dss_one (ds_ret (de_and (de_is .str (by decide) T.n_isinstance T.n_str (de_var 0)) (de_one (de_cmp (op_eqX hr.units) os_eq (de_var 0) (de_var 1)))))) dss_nil) (dss_cons (ds_if (PW.pt (dw_and (dt_tru (de_is .tup (by decide) T.n_isinstance T.n_tuple (de_var 1))) (dw_and1 (dt_not (dt_tru (de_is .tup (by decide) T.n_isinstance T.n_tuple (de_var 0))))))) (dss_one (ds_ret de_bl)) dss_nil) (dss_cons (ds_if (PW.pt (dw_and (dt_tru (de_is .lst (by decide) T.n_isinstance T.n_list (de_var 1))) (dw_and1 (dt_not (dt_tru (de_is .lst (by decide) T.n_isinstance T.n_list (de_var 0))))))) (dss_one (ds_ret de_bl)) dss_nil) (dss_cons (ds_if (dt_cmp (op_neX hr.units) os_ne (de_callB call_len cs_len T.n_len (da_cons (de_var 0) da_nil)) (de_callB call_len cs_len T.n_len (da_cons (de_var 1) da_nil))) (dss_one (ds_ret de_bl)) dss_nil) (dss_cons (ds_for hp rfl (di_rng1 T.n_range (da_cons (de_callB call_len cs_len T.n_len (da_cons (de_var 1) da_nil)) da_nil)) (dg_name 2 nd) (dss_one (ds_if (dt_not (dt_tru (de_has h_rec hr (Nat.le_refl _) tk (da_cons (de_ix (hu_of hr) (de_var 0) (de_var 2)) (da_cons (de_ix (hu_of hr) (de_var 1) (de_var 2)) da_nil))))) (dss_one (ds_ret de_bl)) dss_nil))) (dss_one (ds_ret de_bl)))))))))))
theorem same_loop {x y : D} {F : Fn} {h : DH} {m : Nat} (hb : ∀ k, k < m → B__law_same_1 F [some x, some y, some (.int (k : Int))] h = .nx [some x, some y, some (.int (k : Int))] h) : ∀ (l k : Nat) (o : Option D), k + l = m →
    ∃ σ', forL (fun _ => True) (gN 2) (B__law_same_1 F) ((List.range' k l).map fun (i : Nat) => D.int ((i : Nat) : Int)) [some x, some y, o] h = .nx σ' h
  | 0, k, o, _ => ⟨_, forL_nil trivial⟩
  | l + 1, k, o, e => by
    obtain ⟨σ', e1⟩ := same_loop hb l (k + 1) (some (.int (k : Int))) (by omega)
    refine ⟨σ', ?_⟩
    rw [List.range'_succ, List.map_cons, forL_cons trivial rfl]
    simp only [List.set_cons_succ, List.set_cons_zero]
    rw [hb k (by omega), RS.turn_nx, e1]
theorem eq__law_same (h : DH) : ∀ (n : Nat) (x y : D), SameN h n x y → F__law_same n [x, y] h = .ok (.bl true) h
  | 0, x, y, s => s.elim
  | n + 1, x, y, s => by
    have rg : ∀ m : Nat, rngD 0 m = (List.range' 0 m).map fun (i : Nat) => D.int ((i : Nat) : Int) := fun m => by
      unfold rngD
      rw [List.range_eq_range']
      simp
    rcases s with ⟨rfl, f⟩ | ⟨ds, es, rfl, rfl, hl, hz, hs⟩ | ⟨k, m, ds, es, rfl, rfl, hk, hm, hl, hz, hs⟩
    · cases x with
      | bl b => cases b <;> simp -implicitDefEqProofs [F__law_same]
      | non => simp -implicitDefEqProofs [F__law_same]
      | int i => simp -implicitDefEqProofs [F__law_same]
      | str a => simp -implicitDefEqProofs [F__law_same]
      | _ => cases f
    · obtain ⟨σ', e1⟩ := same_loop (x := .tup ds) (y := .tup es) (F := F__law_same n) (h := h) (m := es.length) (fun k hk => by
        have hd : ds[k]? = some ds[k] := List.getElem?_eq_getElem (by omega)
        have he : es[k]? = some es[k] := List.getElem?_eq_getElem hk
        simp -implicitDefEqProofs [B__law_same_1, oIx_tup (atI_nat hd), oIx_tup (atI_nat he), eq__law_same h n _ _ (hs k _ _ hd he)]) es.length 0 none (by omega)
      have z : (0 : Int) ≤ es.length ∧ (es.length : Int) ≤ 1000000000 := by omega
      simp -implicitDefEqProofs [F__law_same, hl, rngS_one z, rg, e1]
    · obtain ⟨σ', e1⟩ := same_loop (x := .ref k) (y := .ref m) (F := F__law_same n) (h := h) (m := es.length) (fun j hj => by
        have hd : ds[j]? = some ds[j] := List.getElem?_eq_getElem (by omega)
        have he : es[j]? = some es[j] := List.getElem?_eq_getElem hj
        simp -implicitDefEqProofs [B__law_same_1, oIx_lst hk (atI_nat hd), oIx_lst hm (atI_nat he), eq__law_same h n _ _ (hs j _ _ hd he)]) es.length 0 none (by omega)
      have z : (0 : Int) ≤ es.length ∧ (es.length : Int) ≤ 1000000000 := by omega
      simp -implicitDefEqProofs [F__law_same, hl, rngS_one z, rg, e1, tyD_lst hk, tyD_lst hm, bLen_lst hk, bLen_lst hm]

theorem has__law_same (A : All K mg) : Has P w K mg base 8 "_law_same" ["_law_got", "_law_due"] (F__law_same 8) := has_rec (F := F__law_same) A.e__law_same (fun _ _ => rfl) (fun n k hk h f fd F => step__law_same hk A.T  h F) 8
/-! ### _law_left -/
noncomputable def F__law_left : Fn := dDef 1 1 (dSeq (dIf (dTest (dBin oLt (dVar 0) (dC (D.int 10)))) (dRet (dC D.non)) dSkip) (dSeq (dIf (dTest (dBin oLt (dVar 0) (dC (D.int 20)))) (dRet (dC (D.str "ever"))) dSkip) (dSeq (dIf (dTest (dBin oLt (dVar 0) (dC (D.int 120)))) (dRet (dBin oSub (dVar 0) (dC (D.int 20)))) dSkip) (dRet (dBin oMod (dCB bInt (dCons (dVar 0) dNil)) (dC (D.int 3)))))))
theorem ok__law_left (T : Txt K mg)  {f : Addr} {fd : FuncData} (F : Fun K "_law_left" "_law_left" s__law_left f fd) : FnOk P w K mg base (L2.CX P w) 1 f fd ["_law_digit"] (spD K mg F__law_left) := by
  refine fn_ok F sc__law_left (fun cdv A outer s H E hr => ?_)
  have nd := sc__law_left.nd
  have hp := passes_of (X := cxOf (L2.CX P w) P w K mg base ["_law_digit"] "_law_left" (defScope s__law_left) f cdv A outer s H E) (K := fun e s'' => L2.CX P w outer H s E e s'') rfl
  have tk := takes_of (X := cxOf (L2.CX P w) P w K mg base ["_law_digit"] "_law_left" (defScope s__law_left) f cdv A outer s H E) (E := E) rfl rfl rfl rfl
  exact (dss_cons (ds_if (dt_cmp op_lt os_ord (de_var 0) de_int) (dss_one (ds_ret de_non)) dss_nil) (dss_cons (ds_if (dt_cmp op_lt os_ord (de_var 0) de_int) (dss_one (ds_ret de_str)) dss_nil) (dss_cons (ds_if (dt_cmp op_lt os_ord (de_var 0) de_int) (dss_one (ds_ret (de_op op_sub os_sub (de_var 0) de_int))) dss_nil) (dss_one (ds_ret (de_op op_mod os_mod (de_callTy call_intX cs_int T.n_int (da_cons (de_var 0) da_nil)) de_int))))))
noncomputable def G__law_left : Fn := trimF F__law_left
theorem eq__law_left (d : Int) (h : DH) (hd : 0 ≤ d ∧ d < 160) : G__law_left [.int d] h = .ok (lawLeft d).d h ∧ ∀ n, lawLeft d = .num n → n ≤ 99 := by
  have m := mod_of (x := d) (s := 3) (by decide)
  constructor
  · refine trim_same ?_ (Lf.cl _)
    unfold lawLeft
    by_cases c1 : d < 10
    · simp -implicitDefEqProofs [F__law_left, c1, Lf.d]
    · by_cases c2 : d < 20
      · simp -implicitDefEqProofs [F__law_left, c1, c2, Lf.d]
      · by_cases c3 : d < 120
        · have e : (((d - 20).toNat : Nat) : Int) = d - 20 := by omega
          simp -implicitDefEqProofs [F__law_left, c1, c2, c3, Lf.d, e]
        · have e : (((d % 3).toNat : Nat) : Int) = d % 3 := by omega
          simp -implicitDefEqProofs [F__law_left, c1, c2, c3, Lf.d, oMod_int, e]
  · intro n e
    unfold lawLeft at e
    repeat' split at e
    all_goals (cases e; try omega)
theorem has__law_left (A : All K mg) : Has P w K mg base 1 "_law_left" ["_law_digit"] G__law_left := Has.trim (has_of A.e__law_left fun f fd F => ok__law_left A.T  F) (trimF_ok F__law_left)
/-! ### _law_pages -/
noncomputable def B__law_pages_1 : FS := (dIf (dTest (dBin oGe (dVar 5) (dVar 3))) (dDrop (dBM "list" mAppend (dVar 4) (dCons (dC (D.str "free")) dNil))) (dIf (dOrT (dTest (dBin oEq (dBin oMod (dCB bInt (dCons (dBin oIx (dVar 0) (dVar 5)) dNil)) (dC (D.int 3))) (dC (D.int 0)))) (dTest (dBin oEq (dCB bLen (dCons (dVar 1) dNil)) (dC (D.int 0))))) (dDrop (dBM "list" mAppend (dVar 4) (dCons (dC (D.str "old")) dNil))) (dDrop (dBM "list" mAppend (dVar 4) (dCons (dBM "list" mPop (dVar 1) (dCons (dBin oMod (dCB bInt (dCons (dBin oDiv (dBin oIx (dVar 0) (dVar 5)) (dC (D.int 3))) dNil)) (dCB bLen (dCons (dVar 1) dNil))) dNil)) dNil)))))
noncomputable def F__law_pages : Fn := dDef 4 6 (dSeq (dSet 4 (dLst dNil)) (dSeq (dFor (dRng (dCons (dVar 2) dNil)) (gN 5) B__law_pages_1) (dRet (dCB bTuple (dCons (dVar 4) dNil)))))
theorem ok__law_pages (T : Txt K mg)  {f : Addr} {fd : FuncData} (F : Fun K "_law_pages" "_law_pages" s__law_pages f fd) : FnOk P w K mg base (L2.CX P w) 1 f fd ["_law_digits_here", "_law_rest", "_law_pages_here", "_law_written"] (spD K mg F__law_pages) := by
  refine fn_ok F sc__law_pages (fun cdv A outer s H E hr => ?_)
  have nd := sc__law_pages.nd
  have hp := passes_of (X := cxOf (L2.CX P w) P w K mg base ["_law_digits_here", "_law_rest", "_law_pages_here", "_law_written", "_law_row", "_law_k"] "_law_pages" (defScope s__law_pages) f cdv A outer s H E) (K := fun e s'' => L2.CX P w outer H s E e s'') rfl
  have tk := takes_of (X := cxOf (L2.CX P w) P w K mg base ["_law_digits_here", "_law_rest", "_law_pages_here", "_law_written", "_law_row", "_law_k"] "_law_pages" (defScope s__law_pages) f cdv A outer s H E) (E := E) rfl rfl rfl rfl
  exact (dss_cons (ds_set 4 nd (de_lst da_nil)) (dss_cons (ds_for hp rfl (di_rng1 T.n_range (da_cons (de_var 2) da_nil)) (dg_name 5 nd) (dss_one (ds_if (dt_cmp op_ge os_ord (de_var 5) (de_var 3)) (dss_one (ds_expr (de_bm mt_append ms_append PySem.F.plainAttrs_list PySem.F.slot_list_append PySem.F.type_list_append (de_var 4) (da_cons de_str da_nil)))) (dss_one (ds_if (PW.pt (dw_or (dt_cmp (op_eqX hr.units) os_eq (de_op op_mod os_mod (de_callTy call_intX cs_int T.n_int (da_cons (de_ix (hu_of hr) (de_var 0) (de_var 5)) da_nil)) de_int) de_int) (dw_or1 (dt_cmp (op_eqX hr.units) os_eq (de_callB call_len cs_len T.n_len (da_cons (de_var 1) da_nil)) de_int)))) (dss_one (ds_expr (de_bm mt_append ms_append PySem.F.plainAttrs_list PySem.F.slot_list_append PySem.F.type_list_append (de_var 4) (da_cons de_str da_nil)))) (dss_one (ds_expr (de_bm mt_append ms_append PySem.F.plainAttrs_list PySem.F.slot_list_append PySem.F.type_list_append (de_var 4) (da_cons (de_bm mt_popX ms_pop PySem.F.plainAttrs_list PySem.F.slot_list_pop PySem.F.type_list_pop (de_var 1) (da_cons (de_op op_mod os_mod (de_callTy call_intX cs_int T.n_int (da_cons (de_op op_fdivW os_div (de_ix (hu_of hr) (de_var 0) (de_var 5)) de_int) da_nil)) (de_callB call_len cs_len T.n_len (da_cons (de_var 1) da_nil))) da_nil)) da_nil))))))))) (dss_one (ds_ret (de_callTy call_tupX cs_tuple T.n_tuple (da_cons (de_var 4) da_nil))))))
noncomputable def G__law_pages : Fn := trimF F__law_pages
theorem eq__law_pages {h : DH} {dr rr np w : Nat} {dg : List Int} {rest : List Nat} (hd : h[dr]? = some (.lst (dg.map D.int))) (hr : h[rr]? = some (.lst (rest.map fun k => D.int ((k : Nat) : Int)))) (ne : dr ≠ rr) (hl : np ≤ dg.length ∧ np ≤ 6) (h9 : rest.length ≤ 9) (pos : ∀ d ∈ dg, 0 ≤ d) :
    ∃ (ps : List Pg) (rest' : List Nat), G__law_pages [.ref dr, .ref rr, .int (np : Int), .int (w : Int)] h = .ok (.tup (ps.map Pg.d)) (h.set rr (.lst (rest'.map fun k => D.int ((k : Nat) : Int)))) ∧ Drawn ps np w rest rest' := by
  have rl := lt_of_at hr
  have dl := lt_of_at hd
  let Hp : List Nat → List Pg → DH := fun r ps => h.set rr (.lst (r.map fun k => D.int ((k : Nat) : Int))) ++ [.lst (ps.map Pg.d)]
  have hlen : ∀ r : List Nat, (h.set rr (.lst (r.map fun k => D.int ((k : Nat) : Int)))).length = h.length := fun r => List.length_set ..
  have a1 : ∀ r ps, (Hp r ps)[dr]? = some (.lst (dg.map D.int)) := fun r ps => at_old (by rw [List.getElem?_set_ne (Ne.symm ne)]; exact hd)
  have a2 : ∀ r ps, (Hp r ps)[rr]? = some (.lst (r.map fun k => D.int ((k : Nat) : Int))) := fun r ps => at_old (List.getElem?_set_self rl)
  have a3 : ∀ r ps, (Hp r ps)[h.length]? = some (.lst (ps.map Pg.d)) := fun r ps => by
    show (_ ++ _)[h.length]? = _
    rw [← hlen r]
    exact at_new
  have app : ∀ r ps (p : Pg), ps.length ≤ 1000 → mAppend (.ref h.length) [p.d] (Hp r ps) = .ok .non (Hp r (ps ++ [p])) := fun r ps p hl => by
    rw [mAppend_lst (a3 r ps) (by rw [List.length_map]; omega)]
    show Res.ok D.non (List.set _ h.length _) = _
    rw [← hlen r]
    simp [Hp]
  have rcv : ∀ r ps, rcvD "list" (Hp r ps) (.ref h.length) = true := fun r ps => rcv_lst (a3 r ps)
  have rcv2 : ∀ r ps, rcvD "list" (Hp r ps) (.ref rr) = true := fun r ps => rcv_lst (a2 r ps)
  have pop : ∀ r ps (k x : Nat), r[k]? = some x → r.length ≤ 9 → mPop (.ref rr) [.int (k : Int)] (Hp r ps) = .ok (.int ((x : Nat) : Int)) (Hp (r.eraseIdx k) ps) := fun r ps k x hx hl => by
    rw [DL_pop (a2 r ps) (by rw [List.getElem?_map, hx]; rfl) (by rw [List.length_map]; omega)]
    show Res.ok _ (List.set (_ ++ _) rr _) = _
    rw [List.set_append_left _ _ (by rw [hlen]; exact rl), List.set_set, er_map]
  have len : ∀ r ps, bLen [.ref rr] (Hp r ps) = .ok (.int (r.length : Int)) (Hp r ps) := fun r ps => by rw [bLen_lst (a2 r ps), List.length_map]
  obtain ⟨σ', h', e, le, ps, rest', o5, eh, dw, l9, es⟩ := for_run (keep := fun _ => True) (gg := gN 5) (b := B__law_pages_1) (ds := rngD 0 np)
    (fun i σ h' => i ≤ np ∧ ∃ ps r o5, h' = Hp r ps ∧ Drawn ps i w rest r ∧ r.length ≤ 9 ∧ σ = [some (.ref dr), some (.ref rr), some (.int (np : Int)), some (.int (w : Int)), some (.ref h.length), o5])
    (fun _ _ _ _ => trivial)
    (fun i d σ h' hd ⟨le, ps, r, o5, eh, dw, l9, es⟩ => by
      subst eh es
      obtain ⟨il, rfl⟩ := rngD_get hd
      rw [Int.zero_add]
      have pl := dw.len
      have next : ∀ (p : Pg) (r' : List Nat), (p = .free ↔ w ≤ i) → (ksOf [p] ++ r').Perm r → Drawn (ps ++ [p]) (i + 1) w rest r' := fun p r' hp hperm => by
        refine ⟨by rw [List.length_append, List.length_singleton, pl], fun j q hq => ?_, ?_⟩
        · by_cases z : j < ps.length
          · rw [List.getElem?_append_left z] at hq
            exact dw.free j q hq
          · have jl := (List.getElem?_eq_some_iff.mp hq).1
            rw [List.length_append, List.length_singleton] at jl
            have : j = ps.length := by omega
            subst this
            rw [List.getElem?_append_right (Nat.le_refl _), Nat.sub_self] at hq
            cases hq
            rw [pl]
            exact hp
        · rw [ks_app, List.append_assoc]
          exact ((List.Perm.append_left _ hperm).trans dw.perm)
      by_cases c1 : w ≤ i
      · have c1' : (w : Int) ≤ i := by omega
        have ap := app r ps .free (by omega)
        refine ⟨_, rfl, [some (.ref dr), some (.ref rr), some (.int (np : Int)), some (.int (w : Int)), some (.ref h.length), some (.int (i : Int))], _, .inl ?_, by omega, ps ++ [.free], r, _, rfl, next .free r ⟨fun _ => c1, fun _ => rfl⟩ (List.Perm.refl _), l9, rfl⟩
        simp only [Pg.d] at ap
        simp -implicitDefEqProofs [B__law_pages_1, c1', rcv, ap]
      · have c1' : ¬ (w : Int) ≤ i := by omega
        have dgi : dg[i]? = some (dg[i]'(by omega)) := List.getElem?_eq_getElem _
        have dp := pos _ (List.mem_of_getElem? dgi)
        have ix : L2.atI (dg.map D.int) (i : Int) = some (.int (dg[i]'(by omega))) := atI_n (by rw [List.getElem?_map, dgi]; rfl)
        generalize (dg[i]'(by omega)) = g at ix dp
        by_cases c2 : g % 3 = 0 ∨ r.length = 0
        · have ap := app r ps .old (by omega)
          refine ⟨_, rfl, [some (.ref dr), some (.ref rr), some (.int (np : Int)), some (.int (w : Int)), some (.ref h.length), some (.int (i : Int))], _, .inl ?_, by omega, ps ++ [.old], r, _, rfl, next .old r ⟨fun e => (by cases e), fun e => absurd e c1⟩ (List.Perm.refl _), l9, rfl⟩
          simp only [Pg.d] at ap
          by_cases c3 : g % 3 = 0
          · simp -implicitDefEqProofs [B__law_pages_1, c1', ix_at, a1, ix, oMod_int, c3, rcv, ap]
          · have c4 : r = [] := List.eq_nil_of_length_eq_zero (c2.resolve_left c3)
            subst c4
            have len := len [] ps
            simp -implicitDefEqProofs only [List.length_nil] at len
            simp -implicitDefEqProofs [B__law_pages_1, c1', ix_at, a1, ix, oMod_int, c3, len, rcv, ap]
        · have c3 : ¬ g % 3 = 0 := fun z => c2 (.inl z)
          have c4 : 0 < r.length := by
            have : r.length ≠ 0 := fun z => c2 (.inr z)
            omega
          have md := mod_of (x := g / 3) (s := (r.length : Int)) (by omega)
          obtain ⟨k, ek⟩ : ∃ k : Nat, g / 3 % (r.length : Int) = (k : Int) := ⟨(g / 3 % (r.length : Int)).toNat, by omega⟩
          have kl : k < r.length := by omega
          have rk : r[k]? = some r[k] := List.getElem?_eq_getElem kl
          have pp := pop r ps k r[k] rk l9
          have ap := app (r.eraseIdx k) ps (.key r[k]) (by omega)
          refine ⟨_, rfl, [some (.ref dr), some (.ref rr), some (.int (np : Int)), some (.int (w : Int)), some (.ref h.length), some (.int (i : Int))], _, .inl ?_, by omega, ps ++ [.key r[k]], r.eraseIdx k, _, rfl, next (.key r[k]) (r.eraseIdx k) ⟨fun e => (by cases e), fun e => absurd e c1⟩ (perm_pop rk), Nat.le_trans (List.length_eraseIdx_le _ _) l9, rfl⟩
          have len := len r ps
          have c5 : ¬ r = [] := fun z => by rw [z] at c4; simp at c4
          simp only [Pg.d] at ap
          have om : oMod (.int (g / 3)) (.int (r.length : Int)) (Hp r ps) = .ok (.int (k : Int)) (Hp r ps) := by rw [oMod_int (by omega), ek]
          simp -implicitDefEqProofs [B__law_pages_1, c1', ix_at, a1, ix, oMod_int, oDiv_int, c3, len, c5, rcv, rcv2, om, pp, ap])
    [some (.ref dr), some (.ref rr), some (.int (np : Int)), some (.int (w : Int)), some (.ref h.length), none] (Hp rest []) ⟨Nat.zero_le _, [], rest, none, rfl, ⟨rfl, fun i p e => (by simp at e), List.Perm.refl _⟩, h9, rfl⟩
  rw [rngD_len] at dw
  subst eh es
  refine ⟨ps, rest', ?_, dw⟩
  have h0 : h ++ [Cell.lst []] = Hp rest [] := by
    show _ = h.set rr _ ++ _
    have : h.set rr (.lst (rest.map fun k => D.int ((k : Nat) : Int))) = h := by
      obtain ⟨hl, e⟩ := List.getElem?_eq_some_iff.mp hr
      rw [← e, List.set_getElem_self]
    rw [this]; rfl
  have rg := rngS_nat (n := np) (h := h ++ [.lst []]) (by omega)
  have bt : bTuple [.ref h.length] (Hp rest' ps) = .ok (.tup (ps.map Pg.d)) (Hp rest' ps) := bTuple_lst (a3 rest' ps)
  rw [← h0] at e
  refine trim_val' (g := [.lst (ps.map Pg.d)]) ?_ ((Kept.refl h).set (closeds_map (fun _ => rfl) _)) (closeds_map Pg.cl _)
  simp -implicitDefEqProofs [F__law_pages, rg, e, bt]
  rfl
theorem has__law_pages (A : All K mg) : Has P w K mg base 1 "_law_pages" ["_law_digits_here", "_law_rest", "_law_pages_here", "_law_written"] G__law_pages := Has.trim (has_of A.e__law_pages fun f fd F => ok__law_pages A.T  F) (trimF_ok F__law_pages)
/-! ### _law_block -/
noncomputable def F__law_block : Fn := dDef 3 6 (dSeq (dSet 3 (dCall G__law_digits (dCons (dVar 0) (dCons (dBin oAdd (dLst (dCons (dC (D.int 160)) (dCons (dBin oAdd (dVar 2) (dC (D.int 1))) dNil))) (dBin oMul (dLst (dCons (dC (D.int 36)) dNil)) (dVar 2))) dNil)))) (dSeq (dSet 4 (dCall G__law_left (dCons (dBin oIx (dVar 3) (dC (D.int 0))) dNil))) (dSeq (dSet 5 (dBin oIx (dVar 3) (dC (D.int 1)))) (dSeq (dIf (dTest (dBin oIsN (dVar 4) (dC D.non))) (dSet 5 (dVar 2)) dSkip) (dRet (dTup (dCons (dVar 4) (dCons (dCall G__law_pages (dCons (dSl (dVar 3) (dPart (dC (D.int 2))) dNoPart) (dCons (dVar 1) (dCons (dVar 2) (dCons (dVar 5) dNil))))) dNil))))))))
theorem ok__law_block (T : Txt K mg) (h__law_digits : Has P w K mg base 2 "_law_digits" ["_law_cell_here", "_law_sizes"] G__law_digits) (h__law_left : Has P w K mg base 1 "_law_left" ["_law_digit"] G__law_left) (h__law_pages : Has P w K mg base 1 "_law_pages" ["_law_digits_here", "_law_rest", "_law_pages_here", "_law_written"] G__law_pages) {f : Addr} {fd : FuncData} (F : Fun K "_law_block" "_law_block" s__law_block f fd) : FnOk P w K mg base (L2.CX P w) 3 f fd ["_law_cell_here", "_law_rest", "_law_pages_here"] (spD K mg F__law_block) := by
  refine fn_ok F sc__law_block (fun cdv A outer s H E hr => ?_)
  have nd := sc__law_block.nd
  have hp := passes_of (X := cxOf (L2.CX P w) P w K mg base ["_law_cell_here", "_law_rest", "_law_pages_here", "_law_digits_here", "_law_left_here", "_law_written"] "_law_block" (defScope s__law_block) f cdv A outer s H E) (K := fun e s'' => L2.CX P w outer H s E e s'') rfl
  have tk := takes_of (X := cxOf (L2.CX P w) P w K mg base ["_law_cell_here", "_law_rest", "_law_pages_here", "_law_digits_here", "_law_left_here", "_law_written"] "_law_block" (defScope s__law_block) f cdv A outer s H E) (E := E) rfl rfl rfl rfl
  exact (dss_cons (ds_set 3 nd (de_has h__law_digits hr (by decide) tk (da_cons (de_var 0) (da_cons (de_op op_addX os_add (de_lst (da_cons de_int (da_cons (de_op op_addX os_add (de_var 2) de_int) da_nil))) (de_op op_mulX os_mul (de_lst (da_cons de_int da_nil)) (de_var 2))) da_nil)))) (dss_cons (ds_set 4 nd (de_has h__law_left hr (by decide) tk (da_cons (de_ix (hu_of hr) (de_var 3) de_int) da_nil))) (dss_cons (ds_set 5 nd (de_ix (hu_of hr) (de_var 3) de_int)) (dss_cons (ds_if (dt_cmp op_isX os_is (de_var 4) de_non) (dss_one (ds_set 5 nd (de_var 2))) dss_nil) (dss_one (ds_ret (de_tup (da_cons (de_var 4) (da_cons (de_has h__law_pages hr (by decide) tk (da_cons (de_sl (de_var 3) (do_some de_int) do_none) (da_cons (de_var 1) (da_cons (de_var 2) (da_cons (de_var 5) da_nil))))) da_nil)))))))))
noncomputable def G__law_block : Fn := trimF F__law_block
theorem eq__law_block {h : DH} {rr np : Nat} {rest : List Nat} (c : Int) (hr : h[rr]? = some (.lst (rest.map fun k => D.int ((k : Nat) : Int)))) (hn : 1 ≤ np ∧ np ≤ 6) (h9 : rest.length ≤ 9) :
    ∃ (b : Bk) (rest' : List Nat), G__law_block [.int c, .ref rr, .int (np : Int)] h = .ok b.d (h.set rr (.lst (rest'.map fun k => D.int ((k : Nat) : Int)))) ∧ BkDrawn b np rest rest' := by
  have rl := lt_of_at hr
  let sizes : List Int := 160 :: ((np : Int) + 1) :: List.replicate np 36
  have ok : ∀ s ∈ sizes, okSize s := fun s hs => by
    rcases List.mem_cons.mp hs with rfl | hs
    · exact okS (by decide) (by decide)
    · rcases List.mem_cons.mp hs with rfl | hs
      · exact okS (by omega) (by omega)
      · rw [List.eq_of_mem_replicate hs]
        exact okS (by decide) (by decide)
  obtain ⟨x, y, r, ed, hx, hy, rlen, rpos⟩ := split2 (c := c) (a := 160) (b := (np : Int) + 1) (l := List.replicate np 36) (by decide) (by omega) (fun s hs => by rw [List.eq_of_mem_replicate hs]; decide)
  rw [List.length_replicate] at rlen
  let A : Cell := .lst [.int 160, .int ((np : Int) + 1)]
  let B : Cell := .lst [.int 36]
  let C : Cell := .lst (List.replicate np (.int 36))
  let AC : Cell := .lst (sizes.map D.int)
  let G : Cell := .lst ((x :: y :: r).map D.int)
  have dg : G__law_digits [.int c, .ref (h.length + 3)] (h ++ [A, B, C, AC]) = .ok (.ref (h.length + 4)) (h ++ [A, B, C, AC, G]) := by
    have dg := eq__law_digits c (h.length + 3) sizes (h ++ [A, B, C, AC]) hp_k ok (by simp [sizes]; omega)
    have e1 : digits c sizes = x :: y :: r := ed
    rw [e1] at dg
    rw [dg]
    simp [G]
  obtain ⟨ll, l99⟩ := eq__law_left x (h ++ [A, B, C, AC, G]) hx
  obtain ⟨w, ew⟩ : ∃ w : Nat, (w : Int) = if lawLeft x = .bad then (np : Int) else y := by
    split
    · exact ⟨np, rfl⟩
    · exact ⟨y.toNat, by omega⟩
  have sl : (h ++ [A, B, C, AC, G, .lst (r.map D.int)])[h.length + 5]? = some (.lst (r.map D.int)) := hp_k
  obtain ⟨ps, rest', lp, dw⟩ := eq__law_pages (np := np) (w := w) sl (at_old (g := [A, B, C, AC, G, .lst (r.map D.int)]) hr) (by omega) (by omega) h9 rpos
  rw [set_app rl] at lp
  refine ⟨⟨lawLeft x, ps⟩, rest', ?_, ⟨w, dw, fun e => ?_⟩, l99⟩
  · refine trim_val' (g := [A, B, C, AC, G, .lst (r.map D.int)]) ?_ ((Kept.refl h).set (closeds_map (fun _ => rfl) _)) (Bk.cl _)
    have mu : oMul (.ref (h.length + 1)) (.int (np : Int)) (h ++ [A, B]) = .ok (.ref (h.length + 2)) (h ++ [A, B, C]) := by
      rw [oMul_lst (p := [.int 36]) hp_k (by omega) (by simp; omega)]
      simp [C, flat_rep_one]
    have ad : oAdd (.ref h.length) (.ref (h.length + 2)) (h ++ [A, B, C]) = .ok (.ref (h.length + 3)) (h ++ [A, B, C, AC]) := by
      have e1 : (h ++ [A, B, C])[h.length]? = some A := hp_0
      have e2 : (h ++ [A, B, C])[h.length + 2]? = some C := hp_k
      simp only [add_at, e1, e2, A, C]
      rw [if_pos (by simp; omega)]
      simp [AC, sizes]
    have xx : (h ++ [A, B, C, AC, G])[h.length + 4]? = some (.lst ((x :: y :: r).map D.int)) := hp_k
    have bd : (⟨lawLeft x, ps⟩ : Bk).d = .tup [(lawLeft x).d, .tup (ps.map Pg.d)] := rfl
    rw [bd]
    have cut : DL.cutD ((x :: y :: r).map D.int) (some 2) none = r.map D.int := by rw [cut_2]; rfl
    have slc : oSl (.ref (h.length + 4)) (some 2) none (h ++ [A, B, C, AC, G]) = .ok (.ref (h.length + 5)) (h ++ [A, B, C, AC, G, .lst (r.map D.int)]) := by
      rw [oSl_lst xx, cut]; simp
    simp only [List.map_cons] at xx
    have i0 : oIx (.ref (h.length + 4)) (.int 0) (h ++ [A, B, C, AC, G]) = .ok (.int x) (h ++ [A, B, C, AC, G]) := by rw [oIx_at xx, atI_0]; rfl
    have i1 : oIx (.ref (h.length + 4)) (.int 1) (h ++ [A, B, C, AC, G]) = .ok (.int y) (h ++ [A, B, C, AC, G]) := by rw [oIx_at xx, atI_1]; rfl
    by_cases hb : lawLeft x = .bad
    · rw [if_pos hb] at ew
      have : w = np := by omega
      subst this
      have A0 : A = .lst [.int 160, .int ((w : Int) + 1)] := rfl
      have B0 : B = .lst [.int 36] := rfl
      clear_value A B C AC G
      simp -implicitDefEqProofs [F__law_block, ← A0, ← B0, mu, ad, dg, i0, i1, ll, Lf.isN, hb, slc, lp]
    · rw [if_neg hb] at ew
      have A0 : A = .lst [.int 160, .int ((np : Int) + 1)] := rfl
      have B0 : B = .lst [.int 36] := rfl
      clear_value A B C AC G
      simp -implicitDefEqProofs [F__law_block, ← A0, ← B0, mu, ad, dg, i0, i1, ll, Lf.isN, hb, slc, ← ew, lp]
  · simp only at e
    rw [if_pos e] at ew
    omega
theorem has__law_block (A : All K mg) : Has P w K mg base 3 "_law_block" ["_law_cell_here", "_law_rest", "_law_pages_here"] G__law_block := Has.trim (has_of A.e__law_block fun f fd F => ok__law_block A.T (has__law_digits A) (has__law_left A) (has__law_pages A) F) (trimF_ok F__law_block)
/-! ### _law_drawn -/
noncomputable def B__law_drawn_1 : FS := (dDrop (dBM "list" mAppend (dVar 5) (dCons (dCall G__law_block (dCons (dCall G__law_cell (dCons (dVar 0) (dCons (dBin oAdd (dBin oAdd (dVar 1) (dC (D.int 1))) (dVar 6)) dNil))) (dCons (dVar 4) (dCons (dBin oAdd (dC (D.int 1)) (dBin oIx (dVar 2) (dC (D.int 2)))) dNil)))) dNil)))
noncomputable def F__law_drawn : Fn := dDef 2 8 (dSeq (dSet 2 (dCall G__law_digits (dCons (dCall G__law_cell (dCons (dVar 0) (dCons (dVar 1) dNil))) (dCons (dLst (dCons (dC (D.int 9)) (dCons (dC (D.int 9)) (dCons (dC (D.int 6)) (dCons (dC (D.int 10)) (dCons (dC (D.int 10)) (dCons (dC (D.int 18)) dNil))))))) dNil)))) (dSeq (dSet 3 (dBin oAdd (dC (D.int 1)) (dBin oIx (dVar 2) (dC (D.int 0))))) (dSeq (dSet 4 (dListRg1 (dVar 3))) (dSeq (dSet 5 (dLst dNil)) (dSeq (dFor (dRng (dCons (dBin oAdd (dC (D.int 1)) (dBin oIx (dVar 2) (dC (D.int 1)))) dNil)) (gN 6) B__law_drawn_1) (dSeq (dSet 7 (dC D.non)) (dSeq (dIf (dTest (dBin oGe (dBin oIx (dVar 2) (dC (D.int 5))) (dC (D.int 9)))) (dSet 7 (dBin oMod (dCB bInt (dCons (dBin oSub (dBin oIx (dVar 2) (dC (D.int 5))) (dC (D.int 9))) dNil)) (dVar 3))) dSkip) (dRet (dTup (dCons (dVar 3) (dCons (dCB bTuple (dCons (dVar 5) dNil)) (dCons (dBin oIx (dVar 2) (dC (D.int 3))) (dCons (dBin oIx (dVar 2) (dC (D.int 4))) (dCons (dVar 7) dNil))))))))))))))
theorem ok__law_drawn (T : Txt K mg) (h__law_digits : Has P w K mg base 2 "_law_digits" ["_law_cell_here", "_law_sizes"] G__law_digits) (h__law_cell : Has P w K mg base 1 "_law_cell" ["_law_script", "_law_k"] G__law_cell) (h__law_block : Has P w K mg base 3 "_law_block" ["_law_cell_here", "_law_rest", "_law_pages_here"] G__law_block) {f : Addr} {fd : FuncData} (F : Fun K "_law_drawn" "_law_drawn" s__law_drawn f fd) : FnOk P w K mg base (L2.CX P w) 4 f fd ["_law_script", "_law_at"] (spD K mg F__law_drawn) := by
  refine fn_ok F sc__law_drawn (fun cdv A outer s H E hr => ?_)
  have nd := sc__law_drawn.nd
  have hp := passes_of (X := cxOf (L2.CX P w) P w K mg base ["_law_script", "_law_at", "_law_head", "_law_keys", "_law_rest", "_law_rows", "_law_b", "_law_due"] "_law_drawn" (defScope s__law_drawn) f cdv A outer s H E) (K := fun e s'' => L2.CX P w outer H s E e s'') rfl
  have tk := takes_of (X := cxOf (L2.CX P w) P w K mg base ["_law_script", "_law_at", "_law_head", "_law_keys", "_law_rest", "_law_rows", "_law_b", "_law_due"] "_law_drawn" (defScope s__law_drawn) f cdv A outer s H E) (E := E) rfl rfl rfl rfl
  exact (dss_cons (ds_set 2 nd (de_has h__law_digits hr (by decide) tk (da_cons (de_has h__law_cell hr (by decide) tk (da_cons (de_var 0) (da_cons (de_var 1) da_nil))) (da_cons (de_lst (da_cons de_int (da_cons de_int (da_cons de_int (da_cons de_int (da_cons de_int (da_cons de_int da_nil))))))) da_nil)))) (dss_cons (ds_set 3 nd (de_op op_addX os_add de_int (de_ix (hu_of hr) (de_var 2) de_int))) (dss_cons (ds_set 4 nd (de_listRg1 rfl T.n_list T.n_range (de_var 3))) (dss_cons (ds_set 5 nd (de_lst da_nil)) (dss_cons (ds_for hp rfl (di_rng1 T.n_range (da_cons (de_op op_addX os_add de_int (de_ix (hu_of hr) (de_var 2) de_int)) da_nil)) (dg_name 6 nd) (dss_one (ds_expr (de_bm mt_append ms_append PySem.F.plainAttrs_list PySem.F.slot_list_append PySem.F.type_list_append (de_var 5) (da_cons (de_has h__law_block hr (by decide) tk (da_cons (de_has h__law_cell hr (by decide) tk (da_cons (de_var 0) (da_cons (de_op op_addX os_add (de_op op_addX os_add (de_var 1) de_int) (de_var 6)) da_nil))) (da_cons (de_var 4) (da_cons (de_op op_addX os_add de_int (de_ix (hu_of hr) (de_var 2) de_int)) da_nil)))) da_nil))))) (dss_cons (ds_set 7 nd de_non) (dss_cons (ds_if (dt_cmp op_ge os_ord (de_ix (hu_of hr) (de_var 2) de_int) de_int) (dss_one (ds_set 7 nd (de_op op_mod os_mod (de_callTy call_intX cs_int T.n_int (da_cons (de_op op_sub os_sub (de_ix (hu_of hr) (de_var 2) de_int) de_int) da_nil)) (de_var 3)))) dss_nil) (dss_one (ds_ret (de_tup (da_cons (de_var 3) (da_cons (de_callTy call_tupX cs_tuple T.n_tuple (da_cons (de_var 5) da_nil)) (da_cons (de_ix (hu_of hr) (de_var 2) de_int) (da_cons (de_ix (hu_of hr) (de_var 2) de_int) (da_cons (de_var 7) da_nil)))))))))))))))
noncomputable def G__law_drawn : Fn := trimF F__law_drawn
/-- rows as drawn so far -/
structure Rows (rs : List Bk) (np keys : Nat) (rest : List Nat) : Prop where
  ok : ∀ b ∈ rs, b.ok keys np
  perm : (allKs rs ++ rest).Perm (List.range keys)
theorem Rows.add {rs : List Bk} {np keys : Nat} {rest rest' : List Nat} (r : Rows rs np keys rest) {b : Bk} (d : BkDrawn b np rest rest') : Rows (rs ++ [b]) np keys rest' := by
  have lt : ∀ k ∈ rest, k < keys := fun k hk => List.mem_range.mp (r.perm.mem_iff.mp (List.mem_append_right _ hk))
  obtain ⟨w, dr, _⟩ := d.pages
  refine ⟨fun x hx => ?_, ?_⟩
  · rcases List.mem_append.mp hx with hx | hx
    · exact r.ok x hx
    · rw [List.mem_singleton.mp hx]
      exact d.ok lt
  · have e : allKs (rs ++ [b]) = allKs rs ++ ksOf b.pgs := by simp [allKs, List.flatMap_append]
    rw [e, List.append_assoc]
    exact (List.Perm.append_left _ dr.perm).trans r.perm
theorem Rows.once {rs : List Bk} {np keys : Nat} {rest : List Nat} (r : Rows rs np keys rest) : (allKs rs).Nodup := by
  have := (r.perm.nodup_iff).mpr List.nodup_range
  rw [List.nodup_append] at this
  exact this.1
theorem Rows.len {rs : List Bk} {np keys : Nat} {rest : List Nat} (r : Rows rs np keys rest) : rest.length ≤ keys := by
  have := r.perm.length_eq
  rw [List.length_append, List.length_range] at this
  omega
theorem rng_nat (n : Nat) : rngD 0 n = (List.range n).map fun k => D.int ((k : Nat) : Int) := by
  rw [rng0, List.range_eq_range']
/-- a stand as drawn -/
def IsDrawn (F : List D → DH → Res D) (args : List D) (h : DH) : Prop := ∃ s np, Sh.ok s np ∧ F args h = .ok s.d h
theorem eq__law_drawn (ns : List Int) (at' : Nat) (h : DH) (ha : at' < 500) : ∃ s np, Sh.ok s np ∧ G__law_drawn [script ns, .int (at' : Int)] h = .ok s.d h := by
  have bl := digits_below (cellNo ns at') [9, 9, 6, 10, 10, 18] (by decide)
  have dg := eq__law_digits (cellNo ns at') h.length [9, 9, 6, 10, 10, 18] (h ++ [.lst ([9, 9, 6, 10, 10, 18].map D.int)]) at_new (fun s hs => okS (by simp at hs; omega) (by simp at hs; omega)) (by decide)
  generalize digits (cellNo ns at') [9, 9, 6, 10, 10, 18] = dl at bl dg
  cases bl with
  | @cons d0 _ _ _ b0 bl =>
  cases bl with
  | @cons d1 _ _ _ b1 bl =>
  cases bl with
  | @cons d2 _ _ _ b2 bl =>
  cases bl with
  | @cons d3 _ _ _ b3 bl =>
  cases bl with
  | @cons d4 _ _ _ b4 bl =>
  cases bl with
  | @cons d5 _ _ _ b5 bl =>
  cases bl
  obtain ⟨k0, rfl⟩ : ∃ n : Nat, d0 = (n : Int) := ⟨d0.toNat, by omega⟩
  obtain ⟨k1, rfl⟩ : ∃ n : Nat, d1 = (n : Int) := ⟨d1.toNat, by omega⟩
  obtain ⟨k2, rfl⟩ : ∃ n : Nat, d2 = (n : Int) := ⟨d2.toNat, by omega⟩
  obtain ⟨k3, rfl⟩ : ∃ n : Nat, d3 = (n : Int) := ⟨d3.toNat, by omega⟩
  obtain ⟨k4, rfl⟩ : ∃ n : Nat, d4 = (n : Int) := ⟨d4.toNat, by omega⟩
  let S : Cell := .lst [.int 9, .int 9, .int 6, .int 10, .int 10, .int 18]
  let G : Cell := .lst [.int (k0 : Int), .int (k1 : Int), .int (k2 : Int), .int (k3 : Int), .int (k4 : Int), .int d5]
  have dg : G__law_digits [.int (cellNo ns at'), .ref h.length] (h ++ [S]) = .ok (.ref (h.length + 1)) (h ++ [S, G]) := by
    have e : h ++ [S, G] = h ++ [S] ++ [G] := by simp
    rw [e]
    have e2 : (h ++ [Cell.lst ([9, 9, 6, 10, 10, 18].map D.int)]).length = h.length + 1 := by simp
    rw [e2] at dg
    exact dg
  have ca := eq__law_cell ns at' h (by omega)
  let Hp : List Nat → List Bk → DH := fun r rs => h ++ [S, G, .lst (r.map fun k => D.int ((k : Nat) : Int)), .lst (rs.map Bk.d)]
  have g2 : ∀ r rs, oIx (.ref (h.length + 1)) (.int 2) (Hp r rs) = .ok (.int (k2 : Int)) (Hp r rs) := fun r rs => by
    rw [oIx_at (p := [.int (k0 : Int), .int (k1 : Int), .int (k2 : Int), .int (k3 : Int), .int (k4 : Int), .int d5]) hp_k, atI_2]; rfl
  have app : ∀ r rs (b : Bk), rs.length ≤ 1000 → mAppend (.ref (h.length + 3)) [b.d] (Hp r rs) = .ok .non (Hp r (rs ++ [b])) := fun r rs b hl => by
    rw [mAppend_lst (p := rs.map Bk.d) hp_k (by rw [List.length_map]; omega)]
    simp [Hp]
  have rcv : ∀ r rs, rcvD "list" (Hp r rs) (.ref (h.length + 3)) = true := fun r rs => rcv_lst (p := rs.map Bk.d) hp_k
  have st0 : Rows [] (1 + k2) (1 + k0) (List.range (1 + k0)) := ⟨fun b hb => (by cases hb), List.Perm.refl _⟩
  obtain ⟨σ', h', e, le, rs, rest, o6, eh, len, rw_, es⟩ := for_run (keep := fun _ => True) (gg := gN 6) (b := B__law_drawn_1) (ds := rngD 0 (1 + k1))
    (fun i σ h' => i ≤ 1 + k1 ∧ ∃ rs rest o6, h' = Hp rest rs ∧ rs.length = i ∧ Rows rs (1 + k2) (1 + k0) rest ∧ σ = [some (script ns), some (.int (at' : Int)), some (.ref (h.length + 1)), some (.int (1 + (k0 : Int))), some (.ref (h.length + 2)), some (.ref (h.length + 3)), o6, none])
    (fun _ _ _ _ => trivial)
    (fun i d σ h' hd ⟨le, rs, rest, o6, eh, len, rw_, es⟩ => by
      subst eh es
      obtain ⟨il, rfl⟩ := rngD_get hd
      rw [Int.zero_add]
      have l9 := rw_.len
      have c2 := eq__law_cell ns (at' + 1 + i) (Hp rest rs) (by omega)
      rw [show (((at' + 1 + i : Nat)) : Int) = (at' : Int) + 1 + (i : Int) by omega] at c2
      obtain ⟨b, rest', bk, bd⟩ := eq__law_block (h := Hp rest rs) (rr := h.length + 2) (np := 1 + k2) (rest := rest) (cellNo ns (at' + 1 + i)) hp_k (by omega) (by omega)
      rw [show (((1 + k2 : Nat)) : Int) = 1 + (k2 : Int) by omega] at bk
      have sh : (Hp rest rs).set (h.length + 2) (.lst (rest'.map fun k => D.int ((k : Nat) : Int))) = Hp rest' rs := by
        show (h ++ _).set _ _ = _
        rw [hs_k]; rfl
      rw [sh] at bk
      have ap := app rest' rs b (by omega)
      refine ⟨_, rfl, [some (script ns), some (.int (at' : Int)), some (.ref (h.length + 1)), some (.int (1 + (k0 : Int))), some (.ref (h.length + 2)), some (.ref (h.length + 3)), some (.int (i : Int)), none], Hp rest' (rs ++ [b]), .inl ?_, by omega, rs ++ [b], rest', _, rfl, by rw [List.length_append, List.length_singleton, len], rw_.add bd, rfl⟩
      simp -implicitDefEqProofs [B__law_drawn_1, c2, g2, bk, rcv, ap])
    [some (script ns), some (.int (at' : Int)), some (.ref (h.length + 1)), some (.int (1 + (k0 : Int))), some (.ref (h.length + 2)), some (.ref (h.length + 3)), none, none] (Hp (List.range (1 + k0)) []) ⟨Nat.zero_le _, [], _, none, rfl, rfl, st0, rfl⟩
  rw [rngD_len] at len
  subst eh es
  have md := mod_of (x := d5 - 9) (s := 1 + (k0 : Int)) (by omega)
  let due : Option Nat := if 9 ≤ d5 then some ((d5 - 9) % (1 + (k0 : Int))).toNat else none
  have hdue : optD due = if 9 ≤ d5 then .int ((d5 - 9) % (1 + (k0 : Int))) else .non := by
    unfold due
    split
    · show D.int _ = _
      congr 1
      omega
    · rfl
  refine ⟨⟨1 + k0, rs, k3, k4, due⟩, 1 + k2, ⟨by simp only; omega, by simp only; omega, by omega, rw_.ok, once_of rw_.once, by simp only; omega, by simp only; omega, fun k ek => ?_⟩, ?_⟩
  · simp only at ek ⊢
    unfold due at ek
    split at ek
    · cases ek
      omega
    · cases ek
  · rw [Sh.d_mk, hdue, show (((1 + k0 : Nat)) : Int) = 1 + (k0 : Int) by omega]
    refine trim_val (g := [S, G, .lst (rest.map fun k => D.int ((k : Nat) : Int)), .lst (rs.map Bk.d)]) ?_ ?_
    · have rg := rngS_nat (n := 1 + k1) (h := Hp (List.range (1 + k0)) []) (by omega)
      rw [show (((1 + k1 : Nat)) : Int) = 1 + (k1 : Int) by omega] at rg
      have h0 : h ++ [S, G, .lst (rngD 0 (1 + (k0 : Int)).toNat), .lst []] = Hp (List.range (1 + k0)) [] := by
        rw [show (1 + (k0 : Int)).toNat = 1 + k0 by omega, rng_nat]; rfl
      have gi : ∀ (l : DH) (j : Int) (d : D), L2.atI [.int (k0 : Int), .int (k1 : Int), .int (k2 : Int), .int (k3 : Int), .int (k4 : Int), .int d5] j = some d → oIx (.ref (h.length + 1)) (.int j) (h ++ S :: G :: l) = .ok d (h ++ S :: G :: l) := fun l j d e => by
        rw [oIx_at (p := [.int (k0 : Int), .int (k1 : Int), .int (k2 : Int), .int (k3 : Int), .int (k4 : Int), .int d5]) hp_k, e]; rfl
      have q0 := fun l => gi l 0 _ atI_0
      have q1 := fun l => gi l 1 _ atI_1
      have q2 := fun l => gi l 2 _ atI_2
      have q3 := fun l => gi l 3 _ atI_3
      have q4 := fun l => gi l 4 _ atI_4
      have q5 := fun l => gi l 5 _ atI_5
      have bt : bTuple [.ref (h.length + 3)] (Hp rest rs) = .ok (.tup (rs.map Bk.d)) (Hp rest rs) := bTuple_lst hp_k
      have H0 : Hp rest rs = h ++ [S, G, .lst (rest.map fun k => D.int ((k : Nat) : Int)), .lst (rs.map Bk.d)] := rfl
      have H1 : Hp (List.range (1 + k0)) [] = h ++ [S, G, .lst ((List.range (1 + k0)).map fun k => D.int ((k : Nat) : Int)), .lst []] := rfl
      have z1 : 0 ≤ 1 + (k0 : Int) ∧ 1 + (k0 : Int) ≤ 1000000 := by omega
      have S0 : S = .lst [.int 9, .int 9, .int 6, .int 10, .int 10, .int 18] := rfl
      rw [H0] at e bt
      rw [← h0] at e rg
      clear_value Hp S G
      have z2 : 1 + k1 = (1 + (k1 : Int)).toNat := by omega
      by_cases c9 : 9 ≤ d5
      · simp -implicitDefEqProofs [F__law_drawn, ca, ← S0, dg, q0, q1, q2, q3, q4, q5, z1, rg, e, c9, oMod_int (show 0 < 1 + (k0 : Int) by omega), bt]
      · simp -implicitDefEqProofs [F__law_drawn, ca, ← S0, dg, q0, q1, q2, q3, q4, q5, z1, rg, e, c9, bt]
    · show (true && (closed (.tup (rs.map Bk.d)) && (true && (true && (closed _ && true))))) = true
      have : closed (.tup (rs.map Bk.d)) = true := closeds_map Bk.cl _
      rw [this]
      split <;> rfl
theorem has__law_drawn (A : All K mg) : Has P w K mg base 4 "_law_drawn" ["_law_script", "_law_at"] G__law_drawn := Has.trim (has_of A.e__law_drawn fun f fd F => ok__law_drawn A.T (has__law_digits A) (has__law_cell A) (has__law_block A) F) (trimF_ok F__law_drawn)
/-! ### _law_stand -/
noncomputable def F__law_stand : Fn := dDef 1 1 (dRet (dMakeK "Stand" G_Stand___init__ (dCons (dBin oIx (dVar 0) (dC (D.int 0))) (dCons (dCB bList (dCons (dBin oIx (dVar 0) (dC (D.int 1))) dNil)) (dCons (dBin oIx (dVar 0) (dC (D.int 2))) (dCons (dBin oIx (dVar 0) (dC (D.int 3))) dNil)))) (dBin oIx (dVar 0) (dC (D.int 4)))))
theorem ok__law_stand (T : Txt K mg) (h_Stand___init__ : HasIK P w K mg base 7 "Stand" ["self", "keys", "blocks", "fails", "cuts", "asked"] "asked" D.non G_Stand___init__) {f : Addr} {fd : FuncData} (F : Fun K "_law_stand" "_law_stand" s__law_stand f fd) : FnOk P w K mg base (L2.CX P w) 9 f fd ["_law_shape"] (spD K mg F__law_stand) := by
  refine fn_ok F sc__law_stand (fun cdv A outer s H E hr => ?_)
  have nd := sc__law_stand.nd
  have hp := passes_of (X := cxOf (L2.CX P w) P w K mg base ["_law_shape"] "_law_stand" (defScope s__law_stand) f cdv A outer s H E) (K := fun e s'' => L2.CX P w outer H s E e s'') rfl
  have tk := takes_of (X := cxOf (L2.CX P w) P w K mg base ["_law_shape"] "_law_stand" (defScope s__law_stand) f cdv A outer s H E) (E := E) rfl rfl rfl rfl
  exact (dss_one (ds_ret (de_makeKw h_Stand___init__ rfl hr (by decide) tk (da_cons (de_ix (hu_of hr) (de_var 0) de_int) (da_cons (de_callTy call_list_of cs_list T.n_list (da_cons (de_ix (hu_of hr) (de_var 0) de_int) da_nil)) (da_cons (de_ix (hu_of hr) (de_var 0) de_int) (da_cons (de_ix (hu_of hr) (de_var 0) de_int) da_nil)))) (de_ix (hu_of hr) (de_var 0) de_int) (ga_cons (ga_cons (ga_cons (ga_cons ga_nil)))))))
noncomputable def G__law_stand : Fn := trimF F__law_stand
theorem eq__law_stand {s : Sh} {np : Nat} (ok : s.ok np) (h : DH) : G__law_stand [s.d] h = .ok (.ref h.length) (h ++ [stObj s]) := by
  have i := eq_init ok (h := h ++ [.lst (s.rows.map Bk.d), .obj "Stand" []]) (n := h.length + 1) (m := h.length) hp_k hp_0
  rw [hs_k] at i
  have lst : bList [s.rd] h = .ok (.ref h.length) (h ++ [.lst (s.rows.map Bk.d)]) := bList_tup
  have i' : G_Stand___init__ [.ref (h.length + 1), .int (s.keys : Int), .ref h.length, .int (s.fails : Int), .int (s.cuts : Int), optD s.asked] (h ++ [.lst (s.rows.map Bk.d), .obj "Stand" []]) = .ok .non (h ++ [.lst (s.rows.map Bk.d), stObj s]) := i
  refine trim_new (i := 1) (g := [.lst (s.rows.map Bk.d), stObj s]) ?_ rfl (stObj_cl s)
  simp -implicitDefEqProofs [F__law_stand, sh_0, sh_1, sh_2, sh_3, sh_4, lst, newD, i']
theorem has__law_stand (A : All K mg) : Has P w K mg base 9 "_law_stand" ["_law_shape"] G__law_stand := Has.trim (has_of A.e__law_stand fun f fd F => ok__law_stand A.T (has_Stand___init__ A) F) (trimF_ok F__law_stand)
/-! ### _law_odd -/
noncomputable def F__law_odd : Fn := dDef 1 2 (dSeq (dSet 1 (dLst (dCons (dC D.non) (dCons (dC (D.bl true)) (dCons (dC (D.bl false)) (dCons (dUn oNeg (dC (D.int 1))) (dCons (dC (D.int 9)) (dCons (dBin oPow (dC (D.int 10)) (dC (D.int 25))) (dCons (dC (D.str "")) (dCons (dC (D.str "0")) (dCons (dC (D.str "free")) (dCons (dTup dNil) (dCons (dTup (dCons (dC (D.int 0)) dNil)) (dCons (dLst dNil) (dCons (dLst (dCons (dC (D.int 0)) dNil)) (dCons (dTup (dCons (dC (D.str "write")) (dCons (dC (D.int 0)) dNil))) (dCons (dC (D.str "ever")) (dCons (dC (D.int 100)) dNil)))))))))))))))))) (dRet (dBin oIx (dVar 1) (dBin oMod (dCB bInt (dCons (dVar 0) dNil)) (dC (D.int 16))))))
theorem ok__law_odd (T : Txt K mg)  {f : Addr} {fd : FuncData} (F : Fun K "_law_odd" "_law_odd" s__law_odd f fd) : FnOk P w K mg base (L2.CX P w) 1 f fd ["_law_digit"] (spD K mg F__law_odd) := by
  refine fn_ok F sc__law_odd (fun cdv A outer s H E hr => ?_)
  have nd := sc__law_odd.nd
  have hp := passes_of (X := cxOf (L2.CX P w) P w K mg base ["_law_digit", "_law_odds"] "_law_odd" (defScope s__law_odd) f cdv A outer s H E) (K := fun e s'' => L2.CX P w outer H s E e s'') rfl
  have tk := takes_of (X := cxOf (L2.CX P w) P w K mg base ["_law_digit", "_law_odds"] "_law_odd" (defScope s__law_odd) f cdv A outer s H E) (E := E) rfl rfl rfl rfl
  exact (dss_cons (ds_set 1 nd (de_lst (da_cons de_non (da_cons de_bl (da_cons de_bl (da_cons (de_neg de_int) (da_cons de_int (da_cons (de_op op_pow os_pow de_int de_int) (da_cons de_str (da_cons de_str (da_cons de_str (da_cons (de_tup da_nil) (da_cons (de_tup (da_cons de_int da_nil)) (da_cons (de_lst da_nil) (da_cons (de_lst (da_cons de_int da_nil)) (da_cons (de_tup (da_cons de_str (da_cons de_int da_nil))) (da_cons de_str (da_cons de_int da_nil)))))))))))))))))) (dss_one (ds_ret (de_ix (hu_of hr) (de_var 1) (de_op op_mod os_mod (de_callTy call_intX cs_int T.n_int (da_cons (de_var 0) da_nil)) de_int)))))
noncomputable def G__law_odd : Fn := trimF F__law_odd
def oddD (n : Nat) : List D := [.non, .bl true, .bl false, .int (-1), .int 9, .int 10000000000000000000000000, .str "", .str "0", .str "free", .tup [], .tup [.int 0], .ref n, .ref (n + 1), .tup [.str "write", .int 0], .str "ever", .int 100]
theorem odd_F {d : Int} {k : Nat} (ek : d % 16 = (k : Int)) {x : D} (h : DH) (hx : (oddD h.length)[k]? = some x) : F__law_odd [.int d] h = .ok x (h ++ [.lst [], .lst [.int 0], .lst (oddD h.length)]) := by
  have pw : ∀ h, oPow (.int 10) (.int 25) h = .ok (.int 10000000000000000000000000) h := fun h => by
    rw [oPow_int (x := 10) (y := 25) (by decide), show (10 : Int) ^ (25 : Int).toNat = 10000000000000000000000000 by decide]
  have om : ∀ h, oMod (.int d) (.int 16) h = .ok (.int (k : Int)) h := fun h => by rw [oMod_int (by omega), ek]
  have ix : oIx (.ref (h.length + 2)) (.int (k : Int)) (h ++ [.lst [], .lst [.int 0], .lst (oddD h.length)]) = .ok x (h ++ [.lst [], .lst [.int 0], .lst (oddD h.length)]) := by
    rw [oIx_at (p := oddD h.length) hp_k, atI_n hx]; rfl
  have od : oddD h.length = [.non, .bl true, .bl false, .int (-1), .int 9, .int 10000000000000000000000000, .str "", .str "0", .str "free", .tup [], .tup [.int 0], .ref h.length, .ref (h.length + 1), .tup [.str "write", .int 0], .str "ever", .int 100] := rfl
  have ol : (oddD h.length).length ≤ 16777216 := by rw [od]; simp
  generalize oddD h.length = od' at *
  simp -implicitDefEqProofs [F__law_odd, pw, ← od, ol, om, ix]
/-- a value of no cell, or a new list of such -/
def BH (h : DH) (x : D) (g : DH) : Prop := (g = [] ∧ closed x = true ∧ ∀ n H, OkN H n x) ∨ (x = .ref h.length ∧ ∃ l, g = [.lst l] ∧ closeds l = true)
theorem BH.ok {h : DH} {x : D} {g : DH} (b : BH h x g) (n : Nat) : OkN (h ++ g) n x := by
  rcases b with ⟨_, _, o⟩ | ⟨rfl, l, rfl, _⟩
  · exact o n _
  · cases n with
    | zero => exact .inl ⟨_, at_new⟩
    | succ n => exact ⟨.inl ⟨_, at_new⟩, fun l e => by cases e⟩
theorem okN_flat {x : D} (h : ∀ H, OkD H x) (n : ∀ l, x ≠ .tup l) : ∀ k H, OkN H k x
  | 0, H => h H
  | k + 1, H => ⟨h H, fun l e => absurd e (n l)⟩
theorem okN_tup {l : List D} (hl : l.length ≤ 100) (h : ∀ d ∈ l, ∀ k H, OkN H k d) : ∀ k H, OkN H k (.tup l)
  | 0, H => trivial
  | k + 1, H => ⟨trivial, fun l' e => by cases e; exact ⟨hl, fun d hd => h d hd k H⟩⟩
theorem odd_bh (d : Int) (h : DH) : ∃ x g, G__law_odd [.int d] h = .ok x (h ++ g) ∧ BH h x g := by
  obtain ⟨k, ek⟩ : ∃ k : Nat, d % 16 = (k : Int) := ⟨(d % 16).toNat, by omega⟩
  have kl : k < 16 := by omega
  have val : ∀ x, (oddD h.length)[k]? = some x → closed x = true → (∀ n H, OkN H n x) → ∃ x g, G__law_odd [.int d] h = .ok x (h ++ g) ∧ BH h x g := fun x hx hc o => ⟨x, [], by rw [List.append_nil]; exact trim_val (odd_F ek h hx) hc, .inl ⟨rfl, hc, o⟩⟩
  have fl : ∀ x, (oddD h.length)[k]? = some x → closed x = true → (∀ H, OkD H x) → (∀ l, x ≠ .tup l) → ∃ x g, G__law_odd [.int d] h = .ok x (h ++ g) ∧ BH h x g := fun x hx hc o n => val x hx hc (okN_flat o n)
  have ti : ∀ i : Int, ∀ n H, OkN H n (.int i) := fun i => okN_flat (fun H => trivial) fun l e => by cases e
  have ts : ∀ i : Str, ∀ n H, OkN H n (.str i) := fun i => okN_flat (fun H => trivial) fun l e => by cases e
  match k, kl with
  | 0, _ => exact fl .non rfl rfl (fun _ => trivial) fun w e => by cases e
  | 1, _ => exact fl (.bl true) rfl rfl (fun _ => trivial) fun w e => by cases e
  | 2, _ => exact fl (.bl false) rfl rfl (fun _ => trivial) fun w e => by cases e
  | 3, _ => exact fl (.int (-1)) rfl rfl (fun _ => trivial) fun w e => by cases e
  | 4, _ => exact fl (.int 9) rfl rfl (fun _ => trivial) fun w e => by cases e
  | 5, _ => exact fl (.int 10000000000000000000000000) rfl rfl (fun _ => trivial) fun w e => by cases e
  | 6, _ => exact fl (.str "") rfl rfl (fun _ => trivial) fun w e => by cases e
  | 7, _ => exact fl (.str "0") rfl rfl (fun _ => trivial) fun w e => by cases e
  | 8, _ => exact fl (.str "free") rfl rfl (fun _ => trivial) fun w e => by cases e
  | 9, _ => exact val (.tup []) rfl rfl (okN_tup (by decide) fun d hd => by cases hd)
  | 10, _ => exact val (.tup [.int 0]) rfl rfl (okN_tup (by decide) fun d hd => by rw [List.mem_singleton.mp hd]; exact ti 0)
  | 11, _ => exact ⟨_, [.lst []], trim_new (i := 0) (g := [.lst [], .lst [.int 0], .lst (oddD h.length)]) (odd_F ek h rfl) rfl rfl, .inr ⟨rfl, _, rfl, rfl⟩⟩
  | 12, _ => exact ⟨_, [.lst [.int 0]], trim_new (i := 1) (g := [.lst [], .lst [.int 0], .lst (oddD h.length)]) (odd_F ek h rfl) rfl rfl, .inr ⟨rfl, _, rfl, rfl⟩⟩
  | 13, _ => exact val (.tup [.str "write", .int 0]) rfl rfl (okN_tup (by decide) fun d hd => by
      rcases List.mem_cons.mp hd with rfl | hd
      · exact ts "write"
      · rw [List.mem_singleton.mp hd]; exact ti 0)
  | 14, _ => exact fl (.str "ever") rfl rfl (fun _ => trivial) fun w e => by cases e
  | 15, _ => exact fl (.int 100) rfl rfl (fun _ => trivial) fun w e => by cases e
  | k + 16, l => omega

theorem has__law_odd (A : All K mg) : Has P w K mg base 1 "_law_odd" ["_law_digit"] G__law_odd := Has.trim (has_of A.e__law_odd fun f fd F => ok__law_odd A.T  F) (trimF_ok F__law_odd)
/-! ### _law_is_int -/
noncomputable def F__law_is_int : Fn := dDef 3 3 (dRet (dAndV (dIs .int (dVar 0)) (dAndV (dNotV (dIs .bl (dVar 0))) (dChain oLe oLe (dVar 1) (dVar 0) (dVar 2)))))
theorem ok__law_is_int (T : Txt K mg)  {f : Addr} {fd : FuncData} (F : Fun K "_law_is_int" "_law_is_int" s__law_is_int f fd) : FnOk P w K mg base (L2.CX P w) 1 f fd ["_law_thing", "_law_low", "_law_high"] (spD K mg F__law_is_int) := by
  refine fn_ok F sc__law_is_int (fun cdv A outer s H E hr => ?_)
  have nd := sc__law_is_int.nd
  have hp := passes_of (X := cxOf (L2.CX P w) P w K mg base ["_law_thing", "_law_low", "_law_high"] "_law_is_int" (defScope s__law_is_int) f cdv A outer s H E) (K := fun e s'' => L2.CX P w outer H s E e s'') rfl
  have tk := takes_of (X := cxOf (L2.CX P w) P w K mg base ["_law_thing", "_law_low", "_law_high"] "_law_is_int" (defScope s__law_is_int) f cdv A outer s H E) (E := E) rfl rfl rfl rfl
  exact (dss_one (ds_ret (de_and (de_is .int (by decide) T.n_isinstance T.n_int (de_var 0)) (de_and (de_not (de_is .bl (by decide) T.n_isinstance T.n_bool (de_var 0))) (de_one (de_chain op_le op_le os_ord os_ord (de_var 1) (de_var 0) (de_var 2)))))))
noncomputable def G__law_is_int : Fn := trimF F__law_is_int
theorem any__law_is_int {x : D} {h : DH} (o : OkD h x) (lo hi : Int) : G__law_is_int [x, .int lo, .int hi] h = .ok (.bl (numB lo hi x)) h := by
  refine trim_same ?_
  have td : TN.int.has .dic = some false := rfl
  cases x with
  | ref n => rcases o.ty with z | z <;> simp -implicitDefEqProofs [F__law_is_int, z, td, numB]
  | rol _ => cases o
  | exn0 _ _ => cases o
  | exn1 _ _ _ _ _ => cases o
  | int i => by_cases c : lo ≤ i <;> simp -implicitDefEqProofs [F__law_is_int, numB, c]
  | _ => simp -implicitDefEqProofs [F__law_is_int, numB]
theorem has__law_is_int (A : All K mg) : Has P w K mg base 1 "_law_is_int" ["_law_thing", "_law_low", "_law_high"] G__law_is_int := Has.trim (has_of A.e__law_is_int fun f fd F => ok__law_is_int A.T  F) (trimF_ok F__law_is_int)
/-! ### _law_page_right -/
noncomputable def F__law_page_right : Fn := dDef 2 2 (dSeq (dIf (dTru (dIs .str (dVar 0))) (dRet (dOrV (dBin oEq (dVar 0) (dC (D.str "free"))) (dBin oEq (dVar 0) (dC (D.str "old"))))) dSkip) (dRet (dCall G__law_is_int (dCons (dVar 0) (dCons (dC (D.int 0)) (dCons (dBin oSub (dVar 1) (dC (D.int 1))) dNil))))))
theorem ok__law_page_right (T : Txt K mg) (h__law_is_int : Has P w K mg base 1 "_law_is_int" ["_law_thing", "_law_low", "_law_high"] G__law_is_int) {f : Addr} {fd : FuncData} (F : Fun K "_law_page_right" "_law_page_right" s__law_page_right f fd) : FnOk P w K mg base (L2.CX P w) 2 f fd ["_law_page", "_law_keys"] (spD K mg F__law_page_right) := by
  refine fn_ok F sc__law_page_right (fun cdv A outer s H E hr => ?_)
  have nd := sc__law_page_right.nd
  have hp := passes_of (X := cxOf (L2.CX P w) P w K mg base ["_law_page", "_law_keys"] "_law_page_right" (defScope s__law_page_right) f cdv A outer s H E) (K := fun e s'' => L2.CX P w outer H s E e s'') rfl
  have tk := takes_of (X := cxOf (L2.CX P w) P w K mg base ["_law_page", "_law_keys"] "_law_page_right" (defScope s__law_page_right) f cdv A outer s H E) (E := E) rfl rfl rfl rfl
  exact (dss_cons (ds_if (dt_tru (de_is .str (by decide) T.n_isinstance T.n_str (de_var 0))) (dss_one (ds_ret (de_or (de_cmp (op_eqX hr.units) os_eq (de_var 0) de_str) (de_one (de_cmp (op_eqX hr.units) os_eq (de_var 0) de_str))))) dss_nil) (dss_one (ds_ret (de_has h__law_is_int hr (by decide) tk (da_cons (de_var 0) (da_cons de_int (da_cons (de_op op_sub os_sub (de_var 1) de_int) da_nil)))))))
noncomputable def G__law_page_right : Fn := trimF F__law_page_right
theorem any__law_page_right {x : D} {h : DH} (o : OkD h x) (keys : Nat) : G__law_page_right [x, .int (keys : Int)] h = .ok (.bl (cB (PageP keys x))) h := by
  refine trim_same ?_
  have e := any__law_is_int o 0 ((keys : Int) - 1)
  cases x with
  | str s =>
    have c : cB (PageP keys (.str s)) = (decide (s = "free") || decide (s = "old")) := cB_eq (by rw [pageP_str, Bool.or_eq_true, decide_eq_true_iff, decide_eq_true_iff])
    rw [c]
    by_cases z : s = "free"
    · simp -implicitDefEqProofs [F__law_page_right, z]
    · simp -implicitDefEqProofs [F__law_page_right, z]
  | rol _ => cases o
  | exn0 _ _ => cases o
  | exn1 _ _ _ _ _ => cases o
  | ref n =>
    have c := cB_eq (pageP_num (keys := keys) (x := .ref n) (fun _ z => by cases z))
    rw [c]
    rcases o.ty with z | z <;> simp -implicitDefEqProofs [F__law_page_right, z, e, TN.has]
  | int b =>
    have c := cB_eq (pageP_num (keys := keys) (x := .int b) (fun _ z => by cases z))
    rw [c]
    simp -implicitDefEqProofs [F__law_page_right, e]
  | bl b =>
    have c := cB_eq (pageP_num (keys := keys) (x := .bl b) (fun _ z => by cases z))
    rw [c]
    simp -implicitDefEqProofs [F__law_page_right, e]
  | non =>
    have c := cB_eq (pageP_num (keys := keys) (x := .non) (fun _ z => by cases z))
    rw [c]
    simp -implicitDefEqProofs [F__law_page_right, e]
  | tup l =>
    have c := cB_eq (pageP_num (keys := keys) (x := .tup l) (fun _ z => by cases z))
    rw [c]
    simp -implicitDefEqProofs [F__law_page_right, e]
theorem has__law_page_right (A : All K mg) : Has P w K mg base 2 "_law_page_right" ["_law_page", "_law_keys"] G__law_page_right := Has.trim (has_of A.e__law_page_right fun f fd F => ok__law_page_right A.T (has__law_is_int A) F) (trimF_ok F__law_page_right)
/-! ### _law_left_right -/
noncomputable def F__law_left_right : Fn := dDef 2 2 (dSeq (dIf (dTest (dBin oIsN (dVar 0) (dC D.non))) (dRet (dBin oNe (dBin oIx (dVar 1) (dBin oSub (dCB bLen (dCons (dVar 1) dNil)) (dC (D.int 1)))) (dC (D.str "free")))) dSkip) (dSeq (dIf (dTru (dIs .str (dVar 0))) (dRet (dBin oEq (dVar 0) (dC (D.str "ever")))) dSkip) (dRet (dCall G__law_is_int (dCons (dVar 0) (dCons (dC (D.int 0)) (dCons (dC (D.int 99)) dNil)))))))
theorem ok__law_left_right (T : Txt K mg) (h__law_is_int : Has P w K mg base 1 "_law_is_int" ["_law_thing", "_law_low", "_law_high"] G__law_is_int) {f : Addr} {fd : FuncData} (F : Fun K "_law_left_right" "_law_left_right" s__law_left_right f fd) : FnOk P w K mg base (L2.CX P w) 2 f fd ["_law_left_here", "_law_pages_here"] (spD K mg F__law_left_right) := by
  refine fn_ok F sc__law_left_right (fun cdv A outer s H E hr => ?_)
  have nd := sc__law_left_right.nd
  have hp := passes_of (X := cxOf (L2.CX P w) P w K mg base ["_law_left_here", "_law_pages_here"] "_law_left_right" (defScope s__law_left_right) f cdv A outer s H E) (K := fun e s'' => L2.CX P w outer H s E e s'') rfl
  have tk := takes_of (X := cxOf (L2.CX P w) P w K mg base ["_law_left_here", "_law_pages_here"] "_law_left_right" (defScope s__law_left_right) f cdv A outer s H E) (E := E) rfl rfl rfl rfl
  exact (dss_cons (ds_if (dt_cmp op_isX os_is (de_var 0) de_non) (dss_one (ds_ret (de_cmp (op_neX hr.units) os_ne (de_ix (hu_of hr) (de_var 1) (de_op op_sub os_sub (de_callB call_len cs_len T.n_len (da_cons (de_var 1) da_nil)) de_int)) de_str))) dss_nil) (dss_cons (ds_if (dt_tru (de_is .str (by decide) T.n_isinstance T.n_str (de_var 0))) (dss_one (ds_ret (de_cmp (op_eqX hr.units) os_eq (de_var 0) de_str))) dss_nil) (dss_one (ds_ret (de_has h__law_is_int hr (by decide) tk (da_cons (de_var 0) (da_cons de_int (da_cons de_int da_nil))))))))
noncomputable def G__law_left_right : Fn := trimF F__law_left_right
theorem any__law_left {x : D} {h : DH} (o : OkD h x) (hn : x ≠ .non) (p : D) : G__law_left_right [x, p] h = .ok (.bl (cB (LeftP x))) h := by
  refine trim_same ?_
  have e := any__law_is_int o 0 99
  cases x with
  | str s =>
    have c : cB (LeftP (.str s)) = decide (s = "ever") := cB_eq (by rw [leftP_str, decide_eq_true_iff])
    rw [c]
    simp -implicitDefEqProofs [F__law_left_right]
  | rol _ => cases o
  | exn0 _ _ => cases o
  | exn1 _ _ _ _ _ => cases o
  | non => exact absurd rfl hn
  | ref n =>
    have c := cB_eq (leftP_num (x := .ref n) (fun _ z => by cases z))
    rw [c]
    rcases o.ty with z | z <;> simp -implicitDefEqProofs [F__law_left_right, z, e, TN.has]
  | int b =>
    have c := cB_eq (leftP_num (x := .int b) (fun _ z => by cases z))
    rw [c]
    simp -implicitDefEqProofs [F__law_left_right, e]
  | bl b =>
    have c := cB_eq (leftP_num (x := .bl b) (fun _ z => by cases z))
    rw [c]
    simp -implicitDefEqProofs [F__law_left_right, e]
  | tup l =>
    have c := cB_eq (leftP_num (x := .tup l) (fun _ z => by cases z))
    rw [c]
    simp -implicitDefEqProofs [F__law_left_right, e]
theorem any__law_bad {ps : List Pg} (hl : 1 ≤ ps.length) (h : DH) : G__law_left_right [.non, .tup (ps.map Pg.d)] h = .ok (.bl (!decide (ps.getLast? = some .free))) h := by
  refine trim_same ?_
  obtain ⟨last, hlast⟩ : ∃ p, ps[ps.length - 1]? = some p := ⟨_, List.getElem?_eq_getElem (by omega)⟩
  have gl : ps.getLast? = some last := by rw [List.getLast?_eq_getElem?, hlast]
  have ix : L2.atI (ps.map Pg.d) ((ps.length : Int) - 1) = some last.d := by
    rw [show (ps.length : Int) - 1 = ((ps.length - 1 : Nat) : Int) by omega]
    exact atI_n (by rw [List.getElem?_map, hlast]; rfl)
  rw [gl]
  simp -implicitDefEqProofs [F__law_left_right, oIx_tupX, ix, oNe_free]
theorem has__law_left_right (A : All K mg) : Has P w K mg base 2 "_law_left_right" ["_law_left_here", "_law_pages_here"] G__law_left_right := Has.trim (has_of A.e__law_left_right fun f fd F => ok__law_left_right A.T (has__law_is_int A) F) (trimF_ok F__law_left_right)
/-! ### _law_block_right -/
noncomputable def B__law_block_right_1 : FS := (dSeq (dIf (dNotT (dTru (dCall G__law_page_right (dCons (dBin oIx (dVar 3) (dVar 4)) (dCons (dVar 1) dNil))))) (dRet (dC (D.bl false))) dSkip) (dIf (dAndT (dTest (dBin oGt (dVar 4) (dC (D.int 0)))) (dAndT (dTest (dBin oEq (dBin oIx (dVar 3) (dBin oSub (dVar 4) (dC (D.int 1)))) (dC (D.str "free")))) (dTest (dBin oNe (dBin oIx (dVar 3) (dVar 4)) (dC (D.str "free")))))) (dRet (dC (D.bl false))) dSkip))
noncomputable def F__law_block_right : Fn := dDef 2 5 (dSeq (dIf (dOrT (dNotT (dTru (dIs .tup (dVar 0)))) (dTest (dBin oNe (dCB bLen (dCons (dVar 0) dNil)) (dC (D.int 2))))) (dRet (dC (D.bl false))) dSkip) (dSeq (dUnp (gT (gConsD (gN 2) (gConsD (gN 3) gNilD))) (dVar 0)) (dSeq (dIf (dOrT (dNotT (dTru (dIs .tup (dVar 3)))) (dOrT (dTest (dBin oLt (dCB bLen (dCons (dVar 3) dNil)) (dC (D.int 1)))) (dTest (dBin oGt (dCB bLen (dCons (dVar 3) dNil)) (dC (D.int 6)))))) (dRet (dC (D.bl false))) dSkip) (dSeq (dFor (dRng (dCons (dCB bLen (dCons (dVar 3) dNil)) dNil)) (gN 4) B__law_block_right_1) (dRet (dCall G__law_left_right (dCons (dVar 2) (dCons (dVar 3) dNil))))))))
theorem ok__law_block_right (T : Txt K mg) (h__law_left_right : Has P w K mg base 2 "_law_left_right" ["_law_left_here", "_law_pages_here"] G__law_left_right) (h__law_page_right : Has P w K mg base 2 "_law_page_right" ["_law_page", "_law_keys"] G__law_page_right) {f : Addr} {fd : FuncData} (F : Fun K "_law_block_right" "_law_block_right" s__law_block_right f fd) : FnOk P w K mg base (L2.CX P w) 3 f fd ["_law_block_here", "_law_keys"] (spD K mg F__law_block_right) := by
  refine fn_ok F sc__law_block_right (fun cdv A outer s H E hr => ?_)
  have nd := sc__law_block_right.nd
  have hp := passes_of (X := cxOf (L2.CX P w) P w K mg base ["_law_block_here", "_law_keys", "_law_left_here", "_law_pages_here", "_law_p"] "_law_block_right" (defScope s__law_block_right) f cdv A outer s H E) (K := fun e s'' => L2.CX P w outer H s E e s'') rfl
  have tk := takes_of (X := cxOf (L2.CX P w) P w K mg base ["_law_block_here", "_law_keys", "_law_left_here", "_law_pages_here", "_law_p"] "_law_block_right" (defScope s__law_block_right) f cdv A outer s H E) (E := E) rfl rfl rfl rfl
  exact (dss_cons (ds_if (PW.pt (dw_or (dt_not (dt_tru (de_is .tup (by decide) T.n_isinstance T.n_tuple (de_var 0)))) (dw_or1 (dt_cmp (op_neX hr.units) os_ne (de_callB call_len cs_len T.n_len (da_cons (de_var 0) da_nil)) de_int)))) (dss_one (ds_ret de_bl)) dss_nil) (dss_cons (ds_unp (de_var 0) (dg_tup rfl (dgs_cons (dg_name 2 nd) (dgs_cons (dg_name 3 nd) dgs_nil)) (gl_cons (gl_cons gl_nil)))) (dss_cons (ds_if (PW.pt (dw_or (dt_not (dt_tru (de_is .tup (by decide) T.n_isinstance T.n_tuple (de_var 3)))) (dw_or (dt_cmp op_lt os_ord (de_callB call_len cs_len T.n_len (da_cons (de_var 3) da_nil)) de_int) (dw_or1 (dt_cmp op_gt os_ord (de_callB call_len cs_len T.n_len (da_cons (de_var 3) da_nil)) de_int))))) (dss_one (ds_ret de_bl)) dss_nil) (dss_cons (ds_for hp rfl (di_rng1 T.n_range (da_cons (de_callB call_len cs_len T.n_len (da_cons (de_var 3) da_nil)) da_nil)) (dg_name 4 nd) (dss_cons (ds_if (dt_not (dt_tru (de_has h__law_page_right hr (by decide) tk (da_cons (de_ix (hu_of hr) (de_var 3) (de_var 4)) (da_cons (de_var 1) da_nil))))) (dss_one (ds_ret de_bl)) dss_nil) (dss_one (ds_if (PW.pt (dw_and (dt_cmp op_gt os_ord (de_var 4) de_int) (dw_and (dt_cmp (op_eqX hr.units) os_eq (de_ix (hu_of hr) (de_var 3) (de_op op_sub os_sub (de_var 4) de_int)) de_str) (dw_and1 (dt_cmp (op_neX hr.units) os_ne (de_ix (hu_of hr) (de_var 3) (de_var 4)) de_str))))) (dss_one (ds_ret de_bl)) dss_nil)))) (dss_one (ds_ret (de_has h__law_left_right hr (by decide) tk (da_cons (de_var 2) (da_cons (de_var 3) da_nil)))))))))
noncomputable def G__law_block_right : Fn := trimF F__law_block_right
theorem tail_last {ps : List Pg} (t : Tail ps) : Pg.free ∈ ps ↔ ps.getLast? = some .free := by
  constructor
  · intro m
    obtain ⟨i, il, e⟩ := List.getElem_of_mem m
    rw [List.getLast?_eq_getElem?]
    by_cases q : i = ps.length - 1
    · subst q
      rw [List.getElem?_eq_getElem il, e]
    · have := t i (ps.length - 1) (by omega) (by rw [List.getElem?_eq_getElem il, e]) _ (List.getElem?_eq_getElem (by omega))
      rw [List.getElem?_eq_getElem (by omega), this]
  · exact List.mem_of_getLast?
theorem any__law_block_right {x : D} {h : DH} (o : OkN h 2 x) (keys : Nat) : G__law_block_right [x, .int (keys : Int)] h = .ok (.bl (cB (BlkP keys x))) h := by
  refine trim_same ?_
  have nt : (∀ l, x ≠ .tup l) → ¬ BlkP keys x := fun n ⟨b, _, e, _⟩ => n _ e
  cases x with
  | tup ds =>
    obtain ⟨_, od⟩ := o.2 ds rfl
    match ds, od with
    | [], _ =>
      rw [cB_not (fun ⟨b, _, e, _⟩ => by cases e)]
      simp -implicitDefEqProofs [F__law_block_right]
    | [_], _ =>
      rw [cB_not (fun ⟨b, _, e, _⟩ => by cases e)]
      simp -implicitDefEqProofs [F__law_block_right]
    | _ :: _ :: _ :: t, _ =>
      rw [cB_not (fun ⟨b, _, e, _⟩ => by cases e)]
      have c : ¬ (t.length : Int) + 1 + 1 + 1 = 2 := by omega
      simp -implicitDefEqProofs [F__law_block_right, c]
    | [l, p], od =>
      have ol := (od l (by simp)).ok
      have op := od p (by simp)
      have np : (∀ l, p ≠ .tup l) → ¬ BlkP keys (.tup [l, p]) := fun n z => by
        obtain ⟨ps, e, _⟩ := blkP_two z
        exact n _ e
      cases p with
      | tup pd =>
        obtain ⟨_, opd⟩ := op.2 pd rfl
        by_cases len : 1 ≤ pd.length ∧ pd.length ≤ 6
        · have rg := rngS_nat (n := pd.length) (h := h) (by omega)
          have key := for_at (keep := fun _ => True) (gg := gN 4) (b := B__law_block_right_1) (ds := rngD 0 pd.length) (fun i σ h' => h' = h ∧ i ≤ pd.length ∧ ∃ ps a, PgsP keys (pd.take i) ps ∧ σ = [some (.tup [l, .tup pd]), some (.int (keys : Int)), some l, some (.tup pd), a])
            (fun r => (∃ ps a, PgsP keys pd ps ∧ r = .nx [some (.tup [l, .tup pd]), some (.int (keys : Int)), some l, some (.tup pd), a] h) ∨ ((¬ ∃ ps, PgsP keys pd ps) ∧ r = .rt (.bl false) h))
            (fun σ h' ⟨e, _, ps, a, pp, es⟩ => ⟨trivial, .inl ⟨ps, a, by rwa [rngD_len, List.take_length] at pp, by rw [e, es]⟩⟩)
            (fun i d σ h' hd ⟨eh, _, ps, a, pp, es⟩ => by
              subst eh es
              obtain ⟨il, rfl⟩ := rngD_get hd
              rw [Int.zero_add]
              obtain ⟨d, hd⟩ : ∃ d, pd[i]? = some d := ⟨_, List.getElem?_eq_getElem il⟩
              have ip := any__law_page_right (opd d (List.mem_of_getElem? hd)) keys
              have nx := take_next hd
              have ix : L2.atI pd (i : Int) = some d := atI_n hd
              have pl : ps.length = i := by
                have := congrArg List.length pp.1
                rw [List.length_take, List.length_map] at this
                omega
              refine ⟨trivial, _, rfl, ?_⟩
              by_cases c : PageP keys d
              · rw [cB_of c] at ip
                obtain ⟨p, rfl, plt⟩ := c
                by_cases bad : Pg.free ∈ ps ∧ p ≠ .free
                · obtain ⟨fr, pf⟩ := bad
                  refine .inr (.inl ⟨.bl false, h', ?_, .inr ⟨fun ⟨qs, hq⟩ => ?_, rfl⟩⟩)
                  · have i0 : 0 < i := by
                      obtain ⟨j, jl, _⟩ := List.getElem_of_mem fr
                      omega
                    have la := (tail_last pp.2.2).mp fr
                    rw [List.getLast?_eq_getElem?, pl] at la
                    have ix2 : L2.atI pd ((i : Int) - 1) = some Pg.free.d := by
                      rw [show (i : Int) - 1 = ((i - 1 : Nat) : Int) by omega]
                      refine atI_n ?_
                      have : (pd.take i)[i - 1]? = some Pg.free.d := by rw [pp.1, List.getElem?_map, la]; rfl
                      rwa [List.getElem?_take_of_lt (by omega)] at this
                    have i0' : (0 : Int) < (i : Int) := by omega
                    simp -implicitDefEqProofs [B__law_block_right_1, oIx_tupX, ix, ip, i0, i0', ix2, oEq_free, oNe_free, pf]
                  · have h1 := (pgs_pre hq (i + 1)).1
                    have h2 := (pgs_pre hq i).1
                    rw [nx, h2] at h1
                    have pe : ps = qs.take i := pg_map_inj (by rw [← pp.1, h2])
                    have ql : i < qs.length := by have := congrArg List.length hq.1; rw [List.length_map] at this; omega
                    obtain ⟨q, hqi⟩ : ∃ q, qs[i]? = some q := ⟨_, List.getElem?_eq_getElem ql⟩
                    have qd : q = p := Pg.d_inj (by
                      have := congrArg (·[i]?) hq.1
                      simp only [hd, List.getElem?_map, hqi, Option.map_some, Option.some.injEq] at this
                      exact this.symm)
                    rw [pe] at fr
                    obtain ⟨j, jl, je⟩ := List.getElem_of_mem fr
                    rw [List.length_take] at jl
                    exact pf (hq.2.2 j i (by omega) (by rw [← List.getElem?_take_of_lt (show j < i by omega), List.getElem?_eq_getElem (by rw [List.length_take]; omega), je]) p (by rw [hqi, qd]))
                · have good : Pg.free ∈ ps → p = .free := fun m => by
                    by_cases q : p = .free
                    · exact q
                    · exact absurd ⟨m, q⟩ bad
                  refine .inl ⟨[some (.tup [l, .tup pd]), some (.int (keys : Int)), some l, some (.tup pd), some (.int (i : Int))], h', .inl ?_, rfl, il, ps ++ [p], _, by rw [nx]; exact pgs_snoc pp plt good, rfl⟩
                  by_cases i0 : i = 0
                  · have i0' : ¬ (0 : Int) < (i : Int) := by omega
                    have i0'' : ¬ 0 < i := by omega
                    simp -implicitDefEqProofs [B__law_block_right_1, oIx_tupX, ix, ip, i0', i0'']
                  · have i0' : (0 : Int) < (i : Int) := by omega
                    have i0'' : 0 < i := by omega
                    obtain ⟨r, hr⟩ : ∃ r, ps[i - 1]? = some r := ⟨_, List.getElem?_eq_getElem (by omega)⟩
                    have ix2 : L2.atI pd ((i : Int) - 1) = some r.d := by
                      rw [show (i : Int) - 1 = ((i - 1 : Nat) : Int) by omega]
                      refine atI_n ?_
                      have : (pd.take i)[i - 1]? = some r.d := by rw [pp.1, List.getElem?_map, hr]; rfl
                      rwa [List.getElem?_take_of_lt (by omega)] at this
                    by_cases rf : r = .free
                    · have pf : p = .free := by
                        by_cases q : p = .free
                        · exact q
                        · exact absurd ⟨by rw [← rf]; exact List.mem_of_getElem? hr, q⟩ bad
                      subst rf pf
                      simp -implicitDefEqProofs [B__law_block_right_1, oIx_tupX, ix, ip, i0', i0'', ix2, oEq_free, oNe_free]
                    · simp -implicitDefEqProofs [B__law_block_right_1, oIx_tupX, ix, ip, i0', i0'', ix2, oEq_free, rf]
              · rw [cB_not c] at ip
                refine .inr (.inl ⟨.bl false, h', ?_, .inr ⟨fun ⟨qs, hq⟩ => ?_, rfl⟩⟩)
                · simp -implicitDefEqProofs [B__law_block_right_1, oIx_tupX, ix, ip]
                · rw [hq.1] at hd
                  obtain ⟨q, hqi, rfl⟩ := map_at hd
                  exact c ⟨q, rfl, hq.2.1 q (List.mem_of_getElem? hqi)⟩)
            [some (.tup [l, .tup pd]), some (.int (keys : Int)), some l, some (.tup pd), none] h ⟨rfl, Nat.zero_le _, [], none, ⟨rfl, (fun _ h => by cases h), fun i j _ hi => by cases hi⟩, rfl⟩
          have l1 : ¬ (pd.length : Int) < 1 := by omega
          have l2 : ¬ (6 : Int) < (pd.length : Int) := by omega
          have l1' : ¬ pd.length < 1 := by omega
          have l2' : ¬ 6 < pd.length := by omega
          have l3 : pd ≠ [] := fun z => by rw [z] at len; simp at len
          rcases key with ⟨ps, a, pp, e⟩ | ⟨no, e⟩
          · have hl : 1 ≤ ps.length ∧ ps.length ≤ 6 := by have := congrArg List.length pp.1; rw [List.length_map] at this; omega
            by_cases ln : l = .non
            · subst ln
              have c := blkP_non hl pp.2.1 pp.2.2
              rw [← pp.1] at c
              have lr := any__law_bad hl.1 h
              rw [← pp.1] at lr
              rw [cB_eq (b := !decide (ps.getLast? = some .free)) (by rw [c]; simp)]
              simp -implicitDefEqProofs [F__law_block_right, l1, l2, l1', l2', l3, rg, wipeD, e, lr]
            · have c := blkP_left (keys := keys) ln hl pp.2.1 pp.2.2
              rw [← pp.1] at c
              have lr := any__law_left ol ln (.tup pd)
              rw [cB_eq (b := cB (LeftP l)) (by rw [c, cB_iff])]
              simp -implicitDefEqProofs [F__law_block_right, l1, l2, l1', l2', l3, rg, wipeD, e, lr]
          · have c : ¬ BlkP keys (.tup [l, .tup pd]) := fun z => by
              obtain ⟨ps, h1, _, h3, h4⟩ := blkP_two z
              injection h1 with h1
              exact no ⟨ps, h1, h3, h4⟩
            rw [cB_not c]
            simp -implicitDefEqProofs [F__law_block_right, l1, l2, l1', l2', l3, rg, wipeD, e]
        · have c : ¬ BlkP keys (.tup [l, .tup pd]) := fun z => by
            obtain ⟨ps, h1, h2, _⟩ := blkP_two z
            injection h1 with h1
            exact len (by rw [h1, List.length_map]; exact h2)
          rw [cB_not c]
          by_cases l1 : (pd.length : Int) < 1
          · simp -implicitDefEqProofs [F__law_block_right, l1]
          · have l2 : (6 : Int) < (pd.length : Int) := by omega
            simp -implicitDefEqProofs [F__law_block_right, l1, l2]
      | ref n =>
        rw [cB_not (np fun _ e => by cases e)]
        have td : TN.tup.has .dic = some false := rfl
        rcases op.1.ty with z | z <;> simp -implicitDefEqProofs [F__law_block_right, z, td]
      | rol _ => cases op.1
      | exn0 _ _ => cases op.1
      | exn1 _ _ _ _ _ => cases op.1
      | int b => rw [cB_not (np fun _ e => by cases e)]; simp -implicitDefEqProofs [F__law_block_right]
      | bl b => rw [cB_not (np fun _ e => by cases e)]; simp -implicitDefEqProofs [F__law_block_right]
      | non => rw [cB_not (np fun _ e => by cases e)]; simp -implicitDefEqProofs [F__law_block_right]
      | str s => rw [cB_not (np fun _ e => by cases e)]; simp -implicitDefEqProofs [F__law_block_right]
  | ref n =>
    rw [cB_not (nt fun _ e => by cases e)]
    have td : TN.tup.has .dic = some false := rfl
    rcases o.1.ty with z | z <;> simp -implicitDefEqProofs [F__law_block_right, z, td]
  | rol _ => cases o.1
  | exn0 _ _ => cases o.1
  | exn1 _ _ _ _ _ => cases o.1
  | int b => rw [cB_not (nt fun _ e => by cases e)]; simp -implicitDefEqProofs [F__law_block_right]
  | bl b => rw [cB_not (nt fun _ e => by cases e)]; simp -implicitDefEqProofs [F__law_block_right]
  | non => rw [cB_not (nt fun _ e => by cases e)]; simp -implicitDefEqProofs [F__law_block_right]
  | str s => rw [cB_not (nt fun _ e => by cases e)]; simp -implicitDefEqProofs [F__law_block_right]
theorem has__law_block_right (A : All K mg) : Has P w K mg base 3 "_law_block_right" ["_law_block_here", "_law_keys"] G__law_block_right := Has.trim (has_of A.e__law_block_right fun f fd F => ok__law_block_right A.T (has__law_left_right A) (has__law_page_right A) F) (trimF_ok F__law_block_right)
/-! ### _law_blocks_right -/
noncomputable def B__law_blocks_right_1 : FS := (dIf (dNotT (dTru (dIs .str (dVar 4)))) (dDrop (dBM "list" mAppend (dVar 2) (dCons (dVar 4) dNil))) dSkip)
noncomputable def B__law_blocks_right_2 : FS := (dSeq (dIf (dOrT (dNotT (dTru (dCall G__law_block_right (dCons (dVar 3) (dCons (dVar 1) dNil))))) (dTest (dBin oNe (dCB bLen (dCons (dBin oIx (dVar 3) (dC (D.int 1))) dNil)) (dCB bLen (dCons (dBin oIx (dBin oIx (dVar 0) (dC (D.int 0))) (dC (D.int 1))) dNil))))) (dRet (dC (D.bl false))) dSkip) (dFor (dIter (dBin oIx (dVar 3) (dC (D.int 1)))) (gN 4) B__law_blocks_right_1))
noncomputable def F__law_blocks_right : Fn := dDef 2 5 (dSeq (dIf (dOrT (dTest (dBin oLt (dCB bLen (dCons (dVar 0) dNil)) (dC (D.int 1)))) (dTest (dBin oGt (dCB bLen (dCons (dVar 0) dNil)) (dC (D.int 9))))) (dRet (dC (D.bl false))) dSkip) (dSeq (dSet 2 (dLst dNil)) (dSeq (dFor (dIter (dVar 0)) (gN 3) B__law_blocks_right_2) (dRet (dBin oEq (dCB bLen (dCons (dVar 2) dNil)) (dCB bLen (dCons (dSortSet (dVar 2)) dNil)))))))
theorem ok__law_blocks_right (T : Txt K mg) (h__law_block_right : Has P w K mg base 3 "_law_block_right" ["_law_block_here", "_law_keys"] G__law_block_right) {f : Addr} {fd : FuncData} (F : Fun K "_law_blocks_right" "_law_blocks_right" s__law_blocks_right f fd) : FnOk P w K mg base (L2.CX P w) 4 f fd ["_law_rows", "_law_keys"] (spD K mg F__law_blocks_right) := by
  refine fn_ok F sc__law_blocks_right (fun cdv A outer s H E hr => ?_)
  have nd := sc__law_blocks_right.nd
  have hp := passes_of (X := cxOf (L2.CX P w) P w K mg base ["_law_rows", "_law_keys", "_law_met", "_law_block_here", "_law_page"] "_law_blocks_right" (defScope s__law_blocks_right) f cdv A outer s H E) (K := fun e s'' => L2.CX P w outer H s E e s'') rfl
  have tk := takes_of (X := cxOf (L2.CX P w) P w K mg base ["_law_rows", "_law_keys", "_law_met", "_law_block_here", "_law_page"] "_law_blocks_right" (defScope s__law_blocks_right) f cdv A outer s H E) (E := E) rfl rfl rfl rfl
  exact (dss_cons (ds_if (PW.pt (dw_or (dt_cmp op_lt os_ord (de_callB call_len cs_len T.n_len (da_cons (de_var 0) da_nil)) de_int) (dw_or1 (dt_cmp op_gt os_ord (de_callB call_len cs_len T.n_len (da_cons (de_var 0) da_nil)) de_int)))) (dss_one (ds_ret de_bl)) dss_nil) (dss_cons (ds_set 2 nd (de_lst da_nil)) (dss_cons (ds_for hp rfl (di_any (de_var 0)) (dg_name 3 nd) (dss_cons (ds_if (PW.pt (dw_or (dt_not (dt_tru (de_has h__law_block_right hr (by decide) tk (da_cons (de_var 3) (da_cons (de_var 1) da_nil))))) (dw_or1 (dt_cmp (op_neX hr.units) os_ne (de_callB call_len cs_len T.n_len (da_cons (de_ix (hu_of hr) (de_var 3) de_int) da_nil)) (de_callB call_len cs_len T.n_len (da_cons (de_ix (hu_of hr) (de_ix (hu_of hr) (de_var 0) de_int) de_int) da_nil)))))) (dss_one (ds_ret de_bl)) dss_nil) (dss_one (ds_for hp rfl (di_any (de_ix (hu_of hr) (de_var 3) de_int)) (dg_name 4 nd) (dss_one (ds_if (dt_not (dt_tru (de_is .str (by decide) T.n_isinstance T.n_str (de_var 4)))) (dss_one (ds_expr (de_bm mt_append ms_append PySem.F.plainAttrs_list PySem.F.slot_list_append PySem.F.type_list_append (de_var 2) (da_cons (de_var 4) da_nil)))) dss_nil)))))) (dss_one (ds_ret (de_cmp (op_eqX hr.units) os_eq (de_callB call_len cs_len T.n_len (da_cons (de_var 2) da_nil)) (de_callB call_len cs_len T.n_len (da_cons (de_sortSet rfl T.n_sorted T.n_set (de_var 2)) da_nil))))))))
noncomputable def G__law_blocks_right : Fn := trimF F__law_blocks_right
def RowsW (keys : Nat) (ds : List D) (rs : List Bk) : Prop := ds = rs.map Bk.d ∧ ∃ np, (1 ≤ np ∧ np ≤ 6) ∧ ∀ r ∈ rs, r.ok keys np
theorem rowsW_pre {keys : Nat} {ds : List D} {rs : List Bk} (h : RowsW keys ds rs) (i : Nat) : RowsW keys (ds.take i) (rs.take i) := by
  obtain ⟨h1, np, h2, h3⟩ := h
  exact ⟨by rw [h1, List.map_take], np, h2, fun r hr => h3 r (List.mem_of_mem_take hr)⟩
def intsK (l : List Nat) : List Int := l.map fun k => ((k : Nat) : Int)
theorem allKs_len {keys np : Nat} (hp : np ≤ 6) : ∀ {rs : List Bk}, (∀ r ∈ rs, r.ok keys np) → (allKs rs).length ≤ 6 * rs.length
  | [], _ => by simp [allKs]
  | b :: rs, h => by
    have ih := allKs_len hp (rs := rs) fun r hr => h r (List.mem_cons_of_mem _ hr)
    have e : allKs (b :: rs) = ksOf b.pgs ++ allKs rs := rfl
    have l : (ksOf b.pgs).length ≤ b.pgs.length := by unfold ksOf; exact List.length_filterMap_le _ _
    have := (h b (List.mem_cons_self ..)).len
    rw [e, List.length_append, List.length_cons]
    omega
theorem met_row (b : Bk) (acc : List Int) (x0 x1 x3 o4 : Option D) {h : DH} (hl : acc.length + b.pgs.length ≤ 1000) :
    ∃ a4, forL (fun _ => True) (gN 4) B__law_blocks_right_1 (b.pgs.map Pg.d) [x0, x1, some (.ref h.length), x3, o4] (h ++ [.lst (acc.map D.int)]) = .nx [x0, x1, some (.ref h.length), x3, a4] (h ++ [.lst ((acc ++ intsK (ksOf b.pgs)).map D.int)]) := by
  have kl : ∀ ps : List Pg, (ksOf ps).length ≤ ps.length := fun ps => by unfold ksOf; exact List.length_filterMap_le _ _
  obtain ⟨a', e⟩ := for_ix (α := Option D) (keep := fun _ => True) (gg := gN 4) (b := B__law_blocks_right_1) (ds := b.pgs.map Pg.d) (fun i o => [x0, x1, some (.ref h.length), x3, o]) (fun i => h ++ [.lst ((acc ++ intsK (ksOf (b.pgs.take i))).map D.int)]) (fun _ _ => trivial) (fun i d o hd => by
    obtain ⟨p, hp, rfl⟩ := map_at hd
    refine ⟨_, rfl, some p.d, .inl ?_⟩
    have k1 := kl (b.pgs.take i)
    rw [List.length_take] at k1
    rw [take_next hp, ks_app]
    cases p with
    | free =>
      have e : ksOf [Pg.free] = [] := rfl
      rw [e, List.append_nil]
      simp -implicitDefEqProofs [B__law_blocks_right_1, Pg.d]
    | old =>
      have e : ksOf [Pg.old] = [] := rfl
      rw [e, List.append_nil]
      simp -implicitDefEqProofs [B__law_blocks_right_1, Pg.d]
    | key k =>
      have e : intsK (ksOf (b.pgs.take i) ++ ksOf [Pg.key k]) = intsK (ksOf (b.pgs.take i)) ++ [(k : Int)] := by unfold intsK; rw [List.map_append]; rfl
      have c4 : (h ++ [Cell.lst ((acc ++ intsK (ksOf (b.pgs.take i))).map D.int)])[h.length]? = some (.lst ((acc ++ intsK (ksOf (b.pgs.take i))).map D.int)) := at_new
      have ap := mAppend_lst (d := .int (k : Int)) c4 (by unfold intsK; rw [List.length_map, List.length_append, List.length_map]; omega)
      rw [set_new] at ap
      have rc := rcv_lst c4
      have en : (acc ++ (intsK (ksOf (b.pgs.take i)) ++ [(k : Int)])).map D.int = (acc ++ intsK (ksOf (b.pgs.take i))).map D.int ++ [.int (k : Int)] := by simp
      rw [e, en]
      generalize (acc ++ intsK (ksOf (b.pgs.take i))).map D.int = A at *
      simp -implicitDefEqProofs [B__law_blocks_right_1, Pg.d, rc, ap]) o4
  refine ⟨a', ?_⟩
  have s0 : acc ++ intsK (ksOf (b.pgs.take 0)) = acc := by rw [List.take_zero]; exact List.append_nil _
  rw [s0, List.length_map, List.take_length] at e
  exact e
theorem any__law_blocks_right {ds : List D} {keys : Nat} {h : DH} {n : Nat} (hn : h[n]? = some (.lst ds)) (od : ∀ d ∈ ds, OkN h 2 d) :
    G__law_blocks_right [.ref n, .int (keys : Int)] h = .ok (.bl (cB (RowsP keys ds))) h := by
  have ln0 : bLen [.ref n] h = .ok (.int (ds.length : Int)) h := bLen_lst hn
  have it1 : iterS (.ref n) (h ++ [.lst []]) = .ok ⟨ds, fun h' => h'[n]? = some (.lst ds)⟩ (h ++ [.lst []]) := iterS_ref (at_old hn)
  by_cases len : 1 ≤ ds.length ∧ ds.length ≤ 9
  · have l1 : ¬ (ds.length : Int) < 1 := by omega
    have l2 : ¬ (9 : Int) < (ds.length : Int) := by omega
    have l1' : ¬ ds.length < 1 := by omega
    have l2' : ¬ 9 < ds.length := by omega
    have l3 : ds ≠ [] := fun z => by rw [z] at len; simp at len
    have key := for_at (keep := fun h' => h'[n]? = some (.lst ds)) (gg := gN 3) (b := B__law_blocks_right_2) (ds := ds)
      (fun i σ h' => ∃ o3 o4 rs, h' = h ++ [.lst ((intsK (allKs rs)).map D.int)] ∧ RowsW keys (ds.take i) rs ∧ σ = [some (.ref n), some (.int (keys : Int)), some (.ref h.length), o3, o4])
      (fun r => (∃ rs o3 o4, RowsW keys ds rs ∧ r = .nx [some (.ref n), some (.int (keys : Int)), some (.ref h.length), o3, o4] (h ++ [.lst ((intsK (allKs rs)).map D.int)])) ∨ (∃ g, (¬ ∃ rs, RowsW keys ds rs) ∧ r = .rt (.bl false) (h ++ g)))
      (fun σ h' ⟨o3, o4, rs, eh, rq, es⟩ => ⟨by rw [eh]; exact at_old hn, .inl ⟨rs, o3, o4, by rwa [List.take_length] at rq, by rw [eh, es]⟩⟩)
      (fun i d σ h' hd ⟨o3, o4, rs, eh, rq, es⟩ => by
        subst eh es
        have il : i < ds.length := (List.getElem?_eq_some_iff.mp hd).1
        have nx := take_next hd
        obtain ⟨M, hM⟩ : ∃ M, M = Cell.lst ((intsK (allKs rs)).map D.int) := ⟨_, rfl⟩
        have ib := any__law_block_right ((od d (List.mem_of_getElem? hd)).ext (g := [M])) keys
        have agree : ∀ qs, RowsW keys ds qs → rs = qs.take i ∧ ∃ q, qs[i]? = some q ∧ d = q.d := fun qs hq => by
          refine ⟨bk_map_inj (by rw [← rq.1, (rowsW_pre hq i).1]), ?_⟩
          rw [hq.1] at hd
          obtain ⟨q, h1, h2⟩ := map_at hd
          exact ⟨q, h1, h2⟩
        refine ⟨at_old hn, _, rfl, ?_⟩
        by_cases c : BlkP keys d
        · rw [cB_of c] at ib
          obtain ⟨b, n', rfl, bok, hn'⟩ := c
          obtain ⟨d0, hd0⟩ : ∃ d0, ds[0]? = some d0 := ⟨_, List.getElem?_eq_getElem (by omega)⟩
          obtain ⟨b0, rfl, first⟩ : ∃ b0 : Bk, d0 = b0.d ∧ (rs ++ [b])[0]? = some b0 := by
            by_cases z : i = 0
            · subst z
              rw [hd] at hd0
              cases hd0
              have : rs = [] := by
                have := congrArg List.length rq.1
                simp only [List.take_zero, List.length_nil, List.length_map] at this
                exact List.length_eq_zero_iff.mp this.symm
              rw [this]
              exact ⟨b, rfl, rfl⟩
            · have e0 : (ds.take i)[0]? = some d0 := by rw [List.getElem?_take_of_lt (by omega)]; exact hd0
              rw [rq.1] at e0
              obtain ⟨b0, h1, h2⟩ := map_at e0
              exact ⟨b0, h2, by rw [List.getElem?_append_left (List.getElem?_eq_some_iff.mp h1).1]; exact h1⟩
          have ix0 : oIx (.ref n) (.int 0) (h ++ [M]) = .ok b0.d (h ++ [M]) := by
            rw [oIx_at (at_old hn), show L2.atI ds 0 = some b0.d from atI_n (n := 0) hd0]; rfl
          have bd : b.d = .tup [b.left.d, .tup (b.pgs.map Pg.d)] := rfl
          have rd : b0.d = .tup [b0.left.d, .tup (b0.pgs.map Pg.d)] := rfl
          by_cases le : b.pgs.length = b0.pgs.length
          · have rowsw : RowsW keys (ds.take (i + 1)) (rs ++ [b]) := by
              refine ⟨by rw [nx, rq.1, List.map_append]; rfl, ?_⟩
              obtain ⟨np, hp, hr⟩ := rq.2
              cases hrs : rs with
              | nil =>
                rw [hrs] at hr
                exact ⟨n', hn', fun r hr2 => by rw [List.nil_append, List.mem_singleton] at hr2; rw [hr2]; exact bok⟩
              | cons r0 rt =>
                rw [hrs] at first hr
                cases first
                have ok0 := hr b0 (List.mem_cons_self ..)
                have : n' = np := by rw [← bok.len, le, ok0.len]
                subst this
                exact ⟨n', hn', fun r hr2 => by
                  rcases List.mem_append.mp hr2 with hr2 | hr2
                  · exact hr r hr2
                  · rw [List.mem_singleton.mp hr2]; exact bok⟩
            have small : (intsK (allKs rs)).length + b.pgs.length ≤ 1000 := by
              obtain ⟨np, hp, hr⟩ := rq.2
              have h1 := allKs_len hp.2 hr
              have h2 := congrArg List.length rq.1
              rw [List.length_take, List.length_map] at h2
              unfold intsK
              rw [List.length_map, bok.len]
              omega
            obtain ⟨a4, e⟩ := met_row b (intsK (allKs rs)) (some (.ref n)) (some (.int (keys : Int))) (some b.d) o4 (h := h) small
            have en : intsK (allKs rs) ++ intsK (ksOf b.pgs) = intsK (allKs (rs ++ [b])) := by rw [allKs_app, allKs_one]; unfold intsK; rw [List.map_append]
            rw [en, ← hM] at e
            rw [bd] at ib e
            rw [rd] at ix0
            refine .inl ⟨[some (.ref n), some (.int (keys : Int)), some (.ref h.length), some (.tup [b.left.d, .tup (b.pgs.map Pg.d)]), a4], h ++ [.lst ((intsK (allKs (rs ++ [b]))).map D.int)], .inl ?_, _, a4, rs ++ [b], rfl, rowsw, rfl⟩
            rw [bd, ← hM]
            simp -implicitDefEqProofs [B__law_blocks_right_2, ib, ix0, oIx_tupX, atI_1, le, e]
          · rw [bd] at ib
            rw [rd] at ix0
            have le' : ¬ (b.pgs.length : Int) = (b0.pgs.length : Int) := by omega
            refine .inr (.inl ⟨.bl false, h ++ [M], ?_, .inr ⟨[M], fun ⟨qs, hq⟩ => ?_, rfl⟩⟩)
            · rw [bd, ← hM]
              simp -implicitDefEqProofs [B__law_blocks_right_2, ib, ix0, oIx_tupX, atI_1, le, le']
            · obtain ⟨h1, q, h2, h3⟩ := agree qs hq
              have qb : b = q := Bk.d_inj h3
              subst qb
              obtain ⟨np, _, hr⟩ := hq.2
              have m0 : b0 ∈ qs := by
                have f := List.mem_of_getElem? first
                rcases List.mem_append.mp f with f | f
                · rw [h1] at f; exact List.mem_of_mem_take f
                · rw [List.mem_singleton.mp f]; exact List.mem_of_getElem? h2
              exact le (by rw [(hr b (List.mem_of_getElem? h2)).len, (hr b0 m0).len])
        · rw [cB_not c] at ib
          refine .inr (.inl ⟨.bl false, h ++ [M], ?_, .inr ⟨[M], fun ⟨qs, hq⟩ => ?_, rfl⟩⟩)
          · rw [← hM]
            simp -implicitDefEqProofs [B__law_blocks_right_2, ib]
          · obtain ⟨_, q, h2, h3⟩ := agree qs hq
            obtain ⟨np, hp, hr⟩ := hq.2
            exact c ⟨q, np, h3, hr q (List.mem_of_getElem? h2), hp⟩)
      [some (.ref n), some (.int (keys : Int)), some (.ref h.length), none, none] (h ++ [.lst []]) ⟨none, none, [], rfl, ⟨rfl, 1, by omega, fun _ h => by cases h⟩, rfl⟩
    rcases key with ⟨rs, o3, o4, rw', e⟩ | ⟨g, no, e⟩
    · obtain ⟨np, hp, hr⟩ := rw'.2
      have kl := allKs_len hp.2 hr
      have rl := congrArg List.length rw'.1
      rw [List.length_map] at rl
      obtain ⟨L, hL⟩ : ∃ L, L = intsK (allKs rs) := ⟨_, rfl⟩
      have Ll : L.length < 64 := by rw [hL]; unfold intsK; rw [List.length_map]; omega
      rw [← hL] at e
      have m1 : (h ++ [Cell.lst (L.map D.int)])[h.length]? = some (.lst (L.map D.int)) := at_new
      have ss := bSortSet_lst m1 Ll
      have l6 : bLen [.ref h.length] (h ++ [Cell.lst (L.map D.int)]) = .ok (.int (L.length : Int)) (h ++ [Cell.lst (L.map D.int)]) := by rw [bLen_lst m1, List.length_map]
      have l7 : bLen [.ref (h ++ [Cell.lst (L.map D.int)]).length] (h ++ [Cell.lst (L.map D.int)] ++ [Cell.lst ((ascI L).map D.int)]) = .ok (.int ((ascI L).length : Int)) (h ++ [Cell.lst (L.map D.int)] ++ [Cell.lst ((ascI L).map D.int)]) := by rw [bLen_lst at_new, List.length_map]
      have nd : L.Nodup ↔ (allKs rs).Nodup := by
        rw [hL]
        unfold intsK
        unfold List.Nodup
        rw [List.pairwise_map]
        exact ⟨fun z => z.imp fun {a b} q e => q (by rw [e]), fun z => z.imp fun {a b} q e => q (by omega)⟩
      have c : cB (RowsP keys ds) = decide (L.length = (ascI L).length) := cB_eq (by
        rw [decide_eq_true_iff]
        constructor
        · rintro ⟨_, qs, h1, h2, h3⟩
          have : rs = qs := bk_map_inj (by rw [← rw'.1, h1])
          subst this
          exact ((ascI_nodup L).mpr (nd.mpr h3)).symm
        · intro z
          exact ⟨len, rs, rw'.1, ⟨np, hp, hr⟩, nd.mp ((ascI_nodup L).mp z.symm)⟩)
      rw [c]
      refine trim_val (g := [Cell.lst (L.map D.int)] ++ [Cell.lst ((ascI L).map D.int)]) ?_
      rw [← List.append_assoc]
      have dc : decide ((L.length : Int) = ((ascI L).length : Int)) = decide (L.length = (ascI L).length) := by
        rw [Bool.eq_iff_iff, decide_eq_true_iff, decide_eq_true_iff]; omega
      generalize h ++ [Cell.lst (L.map D.int)] ++ [Cell.lst ((ascI L).map D.int)] = H3 at *
      generalize h ++ [Cell.lst (L.map D.int)] = H2 at *
      simp -implicitDefEqProofs [F__law_blocks_right, ln0, l1, l2, l1', l2', l3, it1, e, l6, ss, l7, dc]
    · rw [cB_not (fun z : RowsP keys ds => by
        obtain ⟨_, rs, h1, h2, _⟩ := z
        exact no ⟨rs, h1, h2⟩)]
      refine trim_val (g := g) ?_
      simp -implicitDefEqProofs [F__law_blocks_right, ln0, l1, l2, l1', l2', l3, it1, e]
  · rw [cB_not (fun z : RowsP keys ds => len z.1)]
    refine trim_same ?_
    by_cases l1 : (ds.length : Int) < 1
    · simp -implicitDefEqProofs [F__law_blocks_right, ln0, l1]
    · have l2 : (9 : Int) < (ds.length : Int) := by omega
      simp -implicitDefEqProofs [F__law_blocks_right, ln0, l1, l2]
theorem has__law_blocks_right (A : All K mg) : Has P w K mg base 4 "_law_blocks_right" ["_law_rows", "_law_keys"] G__law_blocks_right := Has.trim (has_of A.e__law_blocks_right fun f fd F => ok__law_blocks_right A.T (has__law_block_right A) F) (trimF_ok F__law_blocks_right)
/-! ### _law_bad_part -/
noncomputable def F__law_bad_part : Fn := dDef 1 6 (dSeq (dUnp (gT (gConsD (gN 1) (gConsD (gN 2) (gConsD (gN 3) (gConsD (gN 4) (gConsD (gN 5) gNilD)))))) (dVar 0)) (dSeq (dIf (dNotT (dTru (dCall G__law_is_int (dCons (dVar 1) (dCons (dC (D.int 1)) (dCons (dC (D.int 9)) dNil)))))) (dRet (dC (D.str "keys"))) dSkip) (dSeq (dIf (dOrT (dNotT (dTru (dIs .lst (dVar 2)))) (dNotT (dTru (dCall G__law_blocks_right (dCons (dVar 2) (dCons (dVar 1) dNil)))))) (dRet (dC (D.str "blocks"))) dSkip) (dSeq (dIf (dNotT (dTru (dCall G__law_is_int (dCons (dVar 3) (dCons (dC (D.int 0)) (dCons (dC (D.int 9)) dNil)))))) (dRet (dC (D.str "fails"))) dSkip) (dSeq (dIf (dNotT (dTru (dCall G__law_is_int (dCons (dVar 4) (dCons (dC (D.int 0)) (dCons (dC (D.int 9)) dNil)))))) (dRet (dC (D.str "cuts"))) dSkip) (dSeq (dIf (dAndT (dTest (dBin oNotN (dVar 5) (dC D.non))) (dNotT (dTru (dCall G__law_is_int (dCons (dVar 5) (dCons (dC (D.int 0)) (dCons (dBin oSub (dVar 1) (dC (D.int 1))) dNil))))))) (dRet (dC (D.str "asked"))) dSkip) (dRet (dC (D.str "")))))))))
theorem ok__law_bad_part (T : Txt K mg) (h__law_is_int : Has P w K mg base 1 "_law_is_int" ["_law_thing", "_law_low", "_law_high"] G__law_is_int) (h__law_blocks_right : Has P w K mg base 4 "_law_blocks_right" ["_law_rows", "_law_keys"] G__law_blocks_right) {f : Addr} {fd : FuncData} (F : Fun K "_law_bad_part" "_law_bad_part" s__law_bad_part f fd) : FnOk P w K mg base (L2.CX P w) 5 f fd ["_law_parts"] (spD K mg F__law_bad_part) := by
  refine fn_ok F sc__law_bad_part (fun cdv A outer s H E hr => ?_)
  have nd := sc__law_bad_part.nd
  have hp := passes_of (X := cxOf (L2.CX P w) P w K mg base ["_law_parts", "_law_keys", "_law_rows", "_law_fails", "_law_cuts", "_law_due"] "_law_bad_part" (defScope s__law_bad_part) f cdv A outer s H E) (K := fun e s'' => L2.CX P w outer H s E e s'') rfl
  have tk := takes_of (X := cxOf (L2.CX P w) P w K mg base ["_law_parts", "_law_keys", "_law_rows", "_law_fails", "_law_cuts", "_law_due"] "_law_bad_part" (defScope s__law_bad_part) f cdv A outer s H E) (E := E) rfl rfl rfl rfl
  exact (dss_cons (ds_unp (de_var 0) (dg_tup rfl (dgs_cons (dg_name 1 nd) (dgs_cons (dg_name 2 nd) (dgs_cons (dg_name 3 nd) (dgs_cons (dg_name 4 nd) (dgs_cons (dg_name 5 nd) dgs_nil))))) (gl_cons (gl_cons (gl_cons (gl_cons (gl_cons gl_nil))))))) (dss_cons (ds_if (dt_not (dt_tru (de_has h__law_is_int hr (by decide) tk (da_cons (de_var 1) (da_cons de_int (da_cons de_int da_nil)))))) (dss_one (ds_ret de_str)) dss_nil) (dss_cons (ds_if (PW.pt (dw_or (dt_not (dt_tru (de_is .lst (by decide) T.n_isinstance T.n_list (de_var 2)))) (dw_or1 (dt_not (dt_tru (de_has h__law_blocks_right hr (by decide) tk (da_cons (de_var 2) (da_cons (de_var 1) da_nil)))))))) (dss_one (ds_ret de_str)) dss_nil) (dss_cons (ds_if (dt_not (dt_tru (de_has h__law_is_int hr (by decide) tk (da_cons (de_var 3) (da_cons de_int (da_cons de_int da_nil)))))) (dss_one (ds_ret de_str)) dss_nil) (dss_cons (ds_if (dt_not (dt_tru (de_has h__law_is_int hr (by decide) tk (da_cons (de_var 4) (da_cons de_int (da_cons de_int da_nil)))))) (dss_one (ds_ret de_str)) dss_nil) (dss_cons (ds_if (PW.pt (dw_and (dt_cmp op_notX os_not (de_var 5) de_non) (dw_and1 (dt_not (dt_tru (de_has h__law_is_int hr (by decide) tk (da_cons (de_var 5) (da_cons de_int (da_cons (de_op op_sub os_sub (de_var 1) de_int) da_nil))))))))) (dss_one (ds_ret de_str)) dss_nil) (dss_one (ds_ret de_str))))))))
noncomputable def G__law_bad_part : Fn := trimF F__law_bad_part
/-- the first part that is not as told -/
noncomputable def partW (k : D) (ds : List D) (f c a : D) : Str :=
  if numB 1 9 k = false then "keys" else if cB (RowsP (natOf k) ds) = false then "blocks" else if numB 0 9 f = false then "fails" else if numB 0 9 c = false then "cuts" else if cB (AskP (natOf k) a) = false then "asked" else ""
theorem partW_ok {k f c a : D} {ds : List D} : partW k ds f c a = "" ↔ FiveP k ds f c a := by
  unfold partW FiveP
  have n1 : ("keys" : Str) ≠ "" := by decide +kernel
  have n2 : ("blocks" : Str) ≠ "" := by decide +kernel
  have n3 : ("fails" : Str) ≠ "" := by decide +kernel
  have n4 : ("cuts" : Str) ≠ "" := by decide +kernel
  have n5 : ("asked" : Str) ≠ "" := by decide +kernel
  have i1 := cB_iff (p := RowsP (natOf k) ds)
  have i2 := cB_iff (p := AskP (natOf k) a)
  generalize cB (RowsP (natOf k) ds) = b1 at *
  generalize cB (AskP (natOf k) a) = b2 at *
  rw [← i1, ← i2]
  cases numB 1 9 k <;> cases b1 <;> cases numB 0 9 f <;> cases numB 0 9 c <;> cases b2 <;> simp [n1, n2, n3, n4, n5]
theorem any__law_bad_part {k f c a : D} {ds : List D} {h : DH} {n : Nat} (hn : h[n]? = some (.lst ds)) (od : ∀ d ∈ ds, OkN h 2 d) (o1 : OkD h k) (o3 : OkD h f) (o4 : OkD h c) (o5 : OkD h a) :
    G__law_bad_part [.tup [k, .ref n, f, c, a]] h = .ok (.str (partW k ds f c a)) h := by
  refine trim_same ?_
  unfold partW
  have e1 := any__law_is_int o1 1 9
  have e3 := any__law_is_int o3 0 9
  have e4 := any__law_is_int o4 0 9
  have tn := tyD_lst hn
  cases hk : numB 1 9 k with
  | false =>
    rw [hk] at e1
    simp -implicitDefEqProofs [F__law_bad_part, e1]
  | true =>
    rw [hk] at e1
    obtain ⟨kn, rfl, k1, k2⟩ := numB_int hk
    obtain ⟨kn, rfl⟩ : ∃ n : Nat, kn = (n : Int) := ⟨kn.toNat, by omega⟩
    have nk : natOf (.int (kn : Int)) = kn := by show (kn : Int).toNat = kn; omega
    rw [nk]
    have e2 := any__law_blocks_right (keys := kn) hn od
    have e5 := any__law_is_int o5 0 ((kn : Int) - 1)
    cases hr : cB (RowsP kn ds) with
    | false =>
      rw [hr] at e2
      simp -implicitDefEqProofs [F__law_bad_part, e1, tn, e2]
    | true =>
      rw [hr] at e2
      cases hf : numB 0 9 f with
      | false =>
        rw [hf] at e3
        simp -implicitDefEqProofs [F__law_bad_part, e1, tn, e2, e3]
      | true =>
        rw [hf] at e3
        cases hc : numB 0 9 c with
        | false =>
          rw [hc] at e4
          simp -implicitDefEqProofs [F__law_bad_part, e1, tn, e2, e3, e4]
        | true =>
          rw [hc] at e4
          have is := any_notN o5
          by_cases an : a = .non
          · subst an
            rw [cB_of (show AskP kn .non from ⟨none, rfl, fun k e => by cases e⟩)]
            simp -implicitDefEqProofs [F__law_bad_part, e1, tn, e2, e3, e4]
          · have nb : nonB a = false := by
              cases q : nonB a with
              | false => rfl
              | true => exact absurd (nonB_iff.mp q) an
            rw [nb] at is
            rw [cB_eq (askP_num (keys := kn) an)]
            cases ha : numB 0 ((kn : Int) - 1) a with
            | false =>
              rw [ha] at e5
              simp -implicitDefEqProofs [F__law_bad_part, e1, tn, e2, e3, e4, is, e5]
            | true =>
              rw [ha] at e5
              simp -implicitDefEqProofs [F__law_bad_part, e1, tn, e2, e3, e4, is, e5]

theorem has__law_bad_part (A : All K mg) : Has P w K mg base 5 "_law_bad_part" ["_law_parts"] G__law_bad_part := Has.trim (has_of A.e__law_bad_part fun f fd F => ok__law_bad_part A.T (has__law_is_int A) (has__law_blocks_right A) F) (trimF_ok F__law_bad_part)
/-! ### _law_bent_here -/
noncomputable def F__law_bent_here : Fn := dDef 2 2 (dSeq (dIf (dAndT (dTest (dBin oLt (dVar 1) (dC (D.int 3)))) (dTru (dIs .tup (dVar 0)))) (dRet (dCB bList (dCons (dVar 0) dNil))) dSkip) (dSeq (dIf (dAndT (dTest (dBin oLt (dVar 1) (dC (D.int 6)))) (dTru (dIs .tup (dVar 0)))) (dRet (dSl (dVar 0) dNoPart (dPart (dBin oSub (dCB bLen (dCons (dVar 0) dNil)) (dC (D.int 1)))))) dSkip) (dSeq (dIf (dAndT (dTest (dBin oLt (dVar 1) (dC (D.int 9)))) (dTru (dIs .tup (dVar 0)))) (dRet (dBin oAdd (dVar 0) (dSl (dVar 0) dNoPart (dPart (dC (D.int 1)))))) dSkip) (dSeq (dIf (dAndT (dTest (dBin oLt (dVar 1) (dC (D.int 6)))) (dTru (dIs .int (dVar 0)))) (dRet (dBin oEq (dVar 0) (dC (D.int 1)))) dSkip) (dSeq (dIf (dAndT (dTest (dBin oLt (dVar 1) (dC (D.int 9)))) (dTru (dIs .int (dVar 0)))) (dRet (dBin oAdd (dVar 0) (dC (D.int 1)))) dSkip) (dRet (dCall G__law_odd (dCons (dVar 1) dNil))))))))
theorem ok__law_bent_here (T : Txt K mg) (h__law_odd : Has P w K mg base 1 "_law_odd" ["_law_digit"] G__law_odd) {f : Addr} {fd : FuncData} (F : Fun K "_law_bent_here" "_law_bent_here" s__law_bent_here f fd) : FnOk P w K mg base (L2.CX P w) 2 f fd ["_law_thing", "_law_digit"] (spD K mg F__law_bent_here) := by
  refine fn_ok F sc__law_bent_here (fun cdv A outer s H E hr => ?_)
  have nd := sc__law_bent_here.nd
  have hp := passes_of (X := cxOf (L2.CX P w) P w K mg base ["_law_thing", "_law_digit"] "_law_bent_here" (defScope s__law_bent_here) f cdv A outer s H E) (K := fun e s'' => L2.CX P w outer H s E e s'') rfl
  have tk := takes_of (X := cxOf (L2.CX P w) P w K mg base ["_law_thing", "_law_digit"] "_law_bent_here" (defScope s__law_bent_here) f cdv A outer s H E) (E := E) rfl rfl rfl rfl
  exact (dss_cons (ds_if (PW.pt (dw_and (dt_cmp op_lt os_ord (de_var 1) de_int) (dw_and1 (dt_tru (de_is .tup (by decide) T.n_isinstance T.n_tuple (de_var 0)))))) (dss_one (ds_ret (de_callTy call_list_of cs_list T.n_list (da_cons (de_var 0) da_nil)))) dss_nil) (dss_cons (ds_if (PW.pt (dw_and (dt_cmp op_lt os_ord (de_var 1) de_int) (dw_and1 (dt_tru (de_is .tup (by decide) T.n_isinstance T.n_tuple (de_var 0)))))) (dss_one (ds_ret (de_sl (de_var 0) do_none (do_some (de_op op_sub os_sub (de_callB call_len cs_len T.n_len (da_cons (de_var 0) da_nil)) de_int))))) dss_nil) (dss_cons (ds_if (PW.pt (dw_and (dt_cmp op_lt os_ord (de_var 1) de_int) (dw_and1 (dt_tru (de_is .tup (by decide) T.n_isinstance T.n_tuple (de_var 0)))))) (dss_one (ds_ret (de_op op_addX os_add (de_var 0) (de_sl (de_var 0) do_none (do_some de_int))))) dss_nil) (dss_cons (ds_if (PW.pt (dw_and (dt_cmp op_lt os_ord (de_var 1) de_int) (dw_and1 (dt_tru (de_is .int (by decide) T.n_isinstance T.n_int (de_var 0)))))) (dss_one (ds_ret (de_cmp (op_eqX hr.units) os_eq (de_var 0) de_int))) dss_nil) (dss_cons (ds_if (PW.pt (dw_and (dt_cmp op_lt os_ord (de_var 1) de_int) (dw_and1 (dt_tru (de_is .int (by decide) T.n_isinstance T.n_int (de_var 0)))))) (dss_one (ds_ret (de_op op_addX os_add (de_var 0) de_int))) dss_nil) (dss_one (ds_ret (de_has h__law_odd hr (by decide) tk (da_cons (de_var 1) da_nil)))))))))
noncomputable def G__law_bent_here : Fn := trimF F__law_bent_here
/-! ### bending -/
def T0 (x : D) : Prop := x = .non ∨ (∃ i, x = .int i) ∨ ∃ s, x = .str s
/-- a thing in a shape -/
def Tn : Nat → D → Prop
  | 0, x => T0 x
  | n + 1, x => T0 x ∨ ∃ l, x = .tup l ∧ l ≠ [] ∧ l.length ≤ 99 ∧ ∀ d ∈ l, Tn n d
theorem T0.cl {x : D} (t : T0 x) : closed x = true := by
  rcases t with rfl | ⟨i, rfl⟩ | ⟨s, rfl⟩ <;> rfl
theorem closeds_of : ∀ {l : List D}, (∀ d ∈ l, closed d = true) → closeds l = true
  | [], _ => rfl
  | d :: l, h => by rw [closeds, h d (List.mem_cons_self ..), closeds_of fun x hx => h x (List.mem_cons_of_mem _ hx)]; rfl
theorem Tn.cl : ∀ {n : Nat} {x : D}, Tn n x → closed x = true
  | 0, x, t => T0.cl t
  | n + 1, x, t => by
    rcases t with t | ⟨l, rfl, _, _, h⟩
    · exact t.cl
    · exact closeds_of fun d hd => (h d hd).cl
theorem T0.ok {x : D} (t : T0 x) : ∀ n H, OkN H n x := by
  rcases t with rfl | ⟨i, rfl⟩ | ⟨s, rfl⟩
  · exact okN_flat (fun _ => trivial) fun l e => by cases e
  · exact okN_flat (fun _ => trivial) fun l e => by cases e
  · exact okN_flat (fun _ => trivial) fun l e => by cases e
theorem Tn.ok : ∀ {k : Nat} {x : D}, Tn k x → ∀ n H, OkN H n x
  | 0, x, t => T0.ok t
  | k + 1, x, t => by
    rcases t with t | ⟨l, rfl, _, hl, h⟩
    · exact t.ok
    · exact okN_tup (by omega) fun d hd => (h d hd).ok
theorem bent_here {k : Nat} {x : D} (t : Tn k x) (d : Int) (h : DH) : ∃ y g, G__law_bent_here [x, .int d] h = .ok y (h ++ g) ∧ BH h y g := by
  obtain ⟨z, gz, ez, bz⟩ := odd_bh d h
  have odd : F__law_bent_here [x, .int d] h = .ok z (h ++ gz) → ∃ y g, G__law_bent_here [x, .int d] h = .ok y (h ++ g) ∧ BH h y g := fun e => by
    rcases bz with ⟨rfl, hc, o⟩ | ⟨rfl, l, rfl, hc⟩
    · exact ⟨z, [], by rw [List.append_nil]; exact trim_val e hc, .inl ⟨rfl, hc, o⟩⟩
    · exact ⟨_, [.lst l], trim_new0 (g := []) e hc, .inr ⟨rfl, l, rfl, hc⟩⟩
  have val : ∀ y, F__law_bent_here [x, .int d] h = .ok y h → closed y = true → (∀ n H, OkN H n y) → ∃ y g, G__law_bent_here [x, .int d] h = .ok y (h ++ g) ∧ BH h y g := fun y e hc o => ⟨y, [], by rw [List.append_nil]; exact trim_same e hc, .inl ⟨rfl, hc, o⟩⟩
  have zero : T0 x → ∃ y g, G__law_bent_here [x, .int d] h = .ok y (h ++ g) ∧ BH h y g := fun t0 => by
    rcases t0 with rfl | ⟨i, rfl⟩ | ⟨s, rfl⟩
    · refine odd ?_
      by_cases c3 : d < 3
      · have c6 : d < 6 := by omega
        have c9 : d < 9 := by omega
        simp -implicitDefEqProofs [F__law_bent_here, c3, c6, c9, ez]
      · by_cases c6 : d < 6
        · have c9 : d < 9 := by omega
          simp -implicitDefEqProofs [F__law_bent_here, c3, c6, c9, ez]
        · by_cases c9 : d < 9
          · simp -implicitDefEqProofs [F__law_bent_here, c3, c6, c9, ez]
          · simp -implicitDefEqProofs [F__law_bent_here, c3, c6, c9, ez]
    · by_cases c6 : d < 6
      · refine val (.bl (decide (i = 1))) ?_ rfl (okN_flat (fun _ => trivial) fun l e => by cases e)
        have c9 : d < 9 := by omega
        by_cases c3 : d < 3
        · simp -implicitDefEqProofs [F__law_bent_here, c3, c6, c9]
        · simp -implicitDefEqProofs [F__law_bent_here, c3, c6, c9]
      · have c3 : ¬ d < 3 := by omega
        by_cases c9 : d < 9
        · refine val (.int (i + 1)) ?_ rfl (okN_flat (fun _ => trivial) fun l e => by cases e)
          simp -implicitDefEqProofs [F__law_bent_here, c3, c6, c9]
        · refine odd ?_
          simp -implicitDefEqProofs [F__law_bent_here, c3, c6, c9, ez]
    · refine odd ?_
      by_cases c3 : d < 3
      · have c6 : d < 6 := by omega
        have c9 : d < 9 := by omega
        simp -implicitDefEqProofs [F__law_bent_here, c3, c6, c9, ez]
      · by_cases c6 : d < 6
        · have c9 : d < 9 := by omega
          simp -implicitDefEqProofs [F__law_bent_here, c3, c6, c9, ez]
        · by_cases c9 : d < 9
          · simp -implicitDefEqProofs [F__law_bent_here, c3, c6, c9, ez]
          · simp -implicitDefEqProofs [F__law_bent_here, c3, c6, c9, ez]
  cases k with
  | zero => exact zero t
  | succ k =>
    rcases t with t | ⟨l, rfl, ne, hl, hd⟩
    · exact zero t
    · have hc : closeds l = true := closeds_of fun d hx => (hd d hx).cl
      have l0 : 0 < l.length := List.length_pos_iff.mpr ne
      by_cases c3 : d < 3
      · refine ⟨.ref h.length, [.lst l], trim_new0 (g := []) ?_ hc, .inr ⟨rfl, l, rfl, hc⟩⟩
        simp -implicitDefEqProofs [F__law_bent_here, c3]
      · by_cases c6 : d < 6
        · refine val (.tup (l.take (l.length - 1))) ?_ (closeds_of fun d hx => (hd d (List.mem_of_mem_take hx)).cl) (okN_tup (by rw [List.length_take]; omega) fun d hx => (hd d (List.mem_of_mem_take hx)).ok)
          have ct := cut_to (ds := l) (l.length - 1)
          have e1 : ((l.length - 1 : Nat) : Int) = (l.length : Int) - 1 := by omega
          rw [e1] at ct
          simp -implicitDefEqProofs [F__law_bent_here, c3, c6, ct]
        · by_cases c9 : d < 9
          · have ct : DL.cutD l none (some 1) = l.take 1 := cut_to (ds := l) 1
            have mm : ∀ x ∈ l ++ l.take 1, x ∈ l := fun x hx => by
              rcases List.mem_append.mp hx with hx | hx
              · exact hx
              · exact List.mem_of_mem_take hx
            refine val (.tup (l ++ l.take 1)) ?_ (closeds_of fun d hx => (hd d (mm d hx)).cl) (okN_tup (by rw [List.length_append, List.length_take]; omega) fun d hx => (hd d (mm d hx)).ok)
            have ap := oAdd_tup (h := h) (p := l) (q := l.take 1) (by rw [List.length_take]; omega)
            simp -implicitDefEqProofs [F__law_bent_here, c3, c6, c9, ct, ap]
          · refine odd ?_
            simp -implicitDefEqProofs [F__law_bent_here, c3, c6, c9, ez]
theorem has__law_bent_here (A : All K mg) : Has P w K mg base 2 "_law_bent_here" ["_law_thing", "_law_digit"] G__law_bent_here := Has.trim (has_of A.e__law_bent_here fun f fd F => ok__law_bent_here A.T (has__law_odd A) F) (trimF_ok F__law_bent_here)
/-! ### _law_bent -/
noncomputable def F__law_bent : Nat → Fn
  | 0 => fun _ _ => .bad
  | n + 1 => dDef 2 4 (dSeq (dIf (dOrT (dTest (dBin oLt (dCB bLen (dCons (dVar 1) dNil)) (dC (D.int 2)))) (dOrT (dNotT (dTru (dIs .tup (dVar 0)))) (dTest (dBin oEq (dCB bLen (dCons (dVar 0) dNil)) (dC (D.int 0)))))) (dRet (dCall G__law_bent_here (dCons (dVar 0) (dCons (dBin oIx (dVar 1) (dBin oSub (dCB bLen (dCons (dVar 1) dNil)) (dC (D.int 1)))) dNil)))) dSkip) (dSeq (dSet 2 (dCB bList (dCons (dVar 0) dNil))) (dSeq (dSet 3 (dBin oMod (dCB bInt (dCons (dBin oIx (dVar 1) (dC (D.int 0))) dNil)) (dCB bLen (dCons (dVar 2) dNil)))) (dSeq (dPut (dVar 2) (dVar 3) (dCall (F__law_bent n) (dCons (dBin oIx (dVar 2) (dVar 3)) (dCons (dSl (dVar 1) (dPart (dC (D.int 1))) dNoPart) dNil)))) (dRet (dCB bTuple (dCons (dVar 2) dNil)))))))
theorem step__law_bent {n k : Nat} (hk : 2 ≤ k) (T : Txt K mg) (h__law_bent_here : Has P w K mg base 2 "_law_bent_here" ["_law_thing", "_law_digit"] G__law_bent_here) (h_rec : Has P w K mg base k "_law_bent" ["_law_thing", "_law_digits_here"] (F__law_bent n)) {f : Addr} {fd : FuncData} (F : Fun K "_law_bent" "_law_bent" s__law_bent f fd) : FnOk P w K mg base (L2.CX P w) (k + 1) f fd ["_law_thing", "_law_digits_here"] (spD K mg (F__law_bent (n + 1))) := by
  refine fn_ok F sc__law_bent (fun cdv A outer s H E hr => ?_)
  have nd := sc__law_bent.nd
  have hp := passes_of (X := cxOf (L2.CX P w) P w K mg base ["_law_thing", "_law_digits_here", "_law_row", "_law_at"] "_law_bent" (defScope s__law_bent) f cdv A outer s H E) (K := fun e s'' => L2.CX P w outer H s E e s'') rfl
  have tk := takes_of (X := cxOf (L2.CX P w) P w K mg base ["_law_thing", "_law_digits_here", "_law_row", "_law_at"] "_law_bent" (defScope s__law_bent) f cdv A outer s H E) (E := E) rfl rfl rfl rfl
  exact (dss_cons (ds_if (PW.pt (dw_or (dt_cmp op_lt os_ord (de_callB call_len cs_len T.n_len (da_cons (de_var 1) da_nil)) de_int) (dw_or (dt_not (dt_tru (de_is .tup (by decide) T.n_isinstance T.n_tuple (de_var 0)))) (dw_or1 (dt_cmp (op_eqX hr.units) os_eq (de_callB call_len cs_len T.n_len (da_cons (de_var 0) da_nil)) de_int))))) (dss_one (ds_ret (de_has h__law_bent_here hr (by omega) tk (da_cons (de_var 0) (da_cons (de_ix (hu_of hr) (de_var 1) (de_op op_sub os_sub (de_callB call_len cs_len T.n_len (da_cons (de_var 1) da_nil)) de_int)) da_nil))))) dss_nil) (dss_cons (ds_set 2 nd (de_callTy call_list_of cs_list T.n_list (da_cons (de_var 0) da_nil))) (dss_cons (ds_set 3 nd (de_op op_mod os_mod (de_callTy call_intX cs_int T.n_int (da_cons (de_ix (hu_of hr) (de_var 1) de_int) da_nil)) (de_callB call_len cs_len T.n_len (da_cons (de_var 2) da_nil)))) (dss_cons (ds_put (hu_of hr) (de_var 2) (de_var 3) (de_has h_rec hr (Nat.le_refl _) tk (da_cons (de_ix (hu_of hr) (de_var 2) (de_var 3)) (da_cons (de_sl (de_var 1) (do_some de_int) do_none) da_nil)))) (dss_one (ds_ret (de_callTy call_tupX cs_tuple T.n_tuple (da_cons (de_var 2) da_nil))))))))
theorem OkN.swap {h g : DH} {c c' : List D} : ∀ {n : Nat} {d : D}, OkN (h ++ .lst c :: g) n d → OkN (h ++ .lst c' :: g) n d
  | 0, _, o => OkD.swap o
  | _ + 1, _, o => ⟨o.1.swap, fun l e => ⟨(o.2 l e).1, fun d hd => ((o.2 l e).2 d hd).swap⟩⟩
theorem bent_ok : ∀ (f n : Nat) (x : D) (ds : List Int) (h : DH) (m : Nat), Tn n x → h[m]? = some (.lst (ds.map D.int)) → 1 ≤ ds.length → ds.length ≤ f → ∃ y g, F__law_bent f [x, .ref m] h = .ok y (h ++ g) ∧ OkN (h ++ g) n y
  | 0, _, _, _, _, _, _, _, h1, h2 => by omega
  | f + 1, n, x, ds, h, m, t, hm, h1, h2 => by
    have ln : bLen [.ref m] h = .ok (.int (ds.length : Int)) h := by rw [bLen_lst hm, List.length_map]
    -- the last digit
    obtain ⟨d, hd⟩ : ∃ d, ds[ds.length - 1]? = some d := ⟨_, List.getElem?_eq_getElem (by omega)⟩
    have ix : oIx (.ref m) (.int ((ds.length : Int) - 1)) h = .ok (.int d) h := by
      rw [oIx_at hm, show (ds.length : Int) - 1 = ((ds.length - 1 : Nat) : Int) by omega, atI_n (d := .int d) (by rw [List.getElem?_map, hd]; rfl)]
      rfl
    have here : ((ds.length < 2) ∨ ∀ l, x ≠ .tup l) → ∃ y g, F__law_bent (f + 1) [x, .ref m] h = .ok y (h ++ g) ∧ OkN (h ++ g) n y := fun c => by
      obtain ⟨y, g, e, b⟩ := bent_here t d h
      refine ⟨y, g, ?_, b.ok n⟩
      rcases c with c | c
      · have c' : (ds.length : Int) < 2 := by omega
        simp -implicitDefEqProofs [F__law_bent, ln, c, c', ix, e]
      · by_cases c2 : (ds.length : Int) < 2
        · have c2' : ds.length < 2 := by omega
          simp -implicitDefEqProofs [F__law_bent, ln, c2, c2', ix, e]
        · have c2' : ¬ ds.length < 2 := by omega
          have t0 : T0 x := by
            cases n with
            | zero => exact t
            | succ n =>
              rcases t with t | ⟨l, rfl, _⟩
              · exact t
              · exact absurd rfl (c l)
          rcases t0 with rfl | ⟨i, rfl⟩ | ⟨s, rfl⟩
          · simp -implicitDefEqProofs [F__law_bent, ln, c2, c2', ix, e]
          · simp -implicitDefEqProofs [F__law_bent, ln, c2, c2', ix, e]
          · simp -implicitDefEqProofs [F__law_bent, ln, c2, c2', ix, e]
    by_cases c2 : ds.length < 2
    · exact here (.inl c2)
    by_cases tt : ∃ l, x = .tup l
    · obtain ⟨l, rfl⟩ := tt
      cases n with
      | zero => rcases t with t | ⟨_, t⟩ | ⟨_, t⟩ <;> cases t
      | succ n =>
        obtain ⟨ne, hl, hi⟩ : l ≠ [] ∧ l.length ≤ 99 ∧ ∀ d ∈ l, Tn n d := by
          rcases t with t | ⟨l', e, r⟩
          · rcases t with t | ⟨_, t⟩ | ⟨_, t⟩ <;> cases t
          · cases e; exact r
        have l0 : 0 < l.length := List.length_pos_iff.mpr ne
        obtain ⟨d0, hd0⟩ : ∃ d, ds[0]? = some d := ⟨_, List.getElem?_eq_getElem (by omega)⟩
        have n1 := Int.emod_nonneg d0 (b := (l.length : Int)) (by omega)
        have n2 := Int.emod_lt_of_pos d0 (b := (l.length : Int)) (by omega)
        obtain ⟨p, ep⟩ : ∃ p : Nat, d0 % (l.length : Int) = (p : Int) := ⟨(d0 % (l.length : Int)).toNat, by omega⟩
        have pl : p < l.length := by omega
        obtain ⟨v, hv⟩ : ∃ v, l[p]? = some v := ⟨_, List.getElem?_eq_getElem pl⟩
        obtain ⟨ds', hds⟩ : ∃ ds', ds' = ds.drop 1 := ⟨_, rfl⟩
        have dl : ds'.length = ds.length - 1 := by rw [hds, List.length_drop]
        obtain ⟨y, g, e, o⟩ := bent_ok f n v ds' (h ++ [.lst l, .lst (ds'.map D.int)]) (h.length + 1) (hi v (List.mem_of_getElem? hv)) (by rw [hp_k]; rfl) (by omega) (by omega)
        rw [List.append_assoc, List.cons_append, List.cons_append, List.nil_append] at e o
        have o' := o.swap (c' := l.set p y)
        refine ⟨.tup (l.set p y), .lst (l.set p y) :: .lst (ds'.map D.int) :: g, ?_, ⟨trivial, fun l' e' => ?_⟩⟩
        · have c2' : ¬ (ds.length : Int) < 2 := by omega
          have l1 : ¬ l.length = 0 := by omega
          have l1' : ¬ (l.length : Int) = 0 := by omega
          have hm1 : (h ++ [Cell.lst l])[m]? = some (.lst (ds.map D.int)) := at_old hm
          have ix0 : oIx (.ref m) (.int 0) (h ++ [Cell.lst l]) = .ok (.int d0) (h ++ [Cell.lst l]) := by
            rw [oIx_at hm1, show L2.atI (ds.map D.int) 0 = some (.int d0) from atI_n (n := 0) (by rw [List.getElem?_map, hd0]; rfl)]; rfl
          have ll : bLen [.ref h.length] (h ++ [Cell.lst l]) = .ok (.int (l.length : Int)) (h ++ [Cell.lst l]) := bLen_lst at_new
          have om : oMod (.int d0) (.int (l.length : Int)) (h ++ [Cell.lst l]) = .ok (.int (p : Int)) (h ++ [Cell.lst l]) := by rw [oMod_int (by omega), ep]
          have ixp : oIx (.ref h.length) (.int (p : Int)) (h ++ [Cell.lst l]) = .ok v (h ++ [Cell.lst l]) := by rw [oIx_at at_new, atI_n hv]; rfl
          have ct : DL.cutD (ds.map D.int) (some 1) none = ds'.map D.int := by rw [hds, List.map_drop]; exact cut_from 1
          have sl : oSl (.ref m) (some 1) none (h ++ [Cell.lst l]) = .ok (.ref (h.length + 1)) (h ++ [Cell.lst l, .lst (ds'.map D.int)]) := by
            rw [oSl_lst hm1, ct]; simp
          have pt : sPut (.ref h.length) (.int (p : Int)) y (h ++ Cell.lst l :: .lst (ds'.map D.int) :: g) = .ok .non (h ++ Cell.lst (l.set p y) :: .lst (ds'.map D.int) :: g) := by
            rw [put_at hp_0 pl, hs_0]
          have tp : bTuple [.ref h.length] (h ++ Cell.lst (l.set p y) :: .lst (ds'.map D.int) :: g) = .ok (.tup (l.set p y)) (h ++ Cell.lst (l.set p y) :: .lst (ds'.map D.int) :: g) := bTuple_lst hp_0
          clear o o' here ct hds
          generalize ds'.map D.int = DS at *
          simp -implicitDefEqProofs [F__law_bent, ln, c2, c2', ne, l1, l1', ix0, ll, om, ixp, sl, e, pt, tp]
        · cases e'
          refine ⟨by rw [List.length_set]; omega, fun d hd => ?_⟩
          rcases List.mem_or_eq_of_mem_set hd with hd | rfl
          · exact (hi d hd).ok n _
          · exact o'
    · exact here (.inr fun l e => tt ⟨l, e⟩)
theorem has__law_bent (A : All K mg) : Has P w K mg base 10 "_law_bent" ["_law_thing", "_law_digits_here"] (F__law_bent 8) := has_rec (F := F__law_bent) A.e__law_bent (fun _ _ => rfl) (fun n k hk h f fd F => step__law_bent hk A.T (has__law_bent_here A) h F) 8
/-! ### _law_turned -/
noncomputable def C__law_turned_1 : FE := (dIfE (dTru (dIs .int (dVar 5))) (dC (D.str "old")) (dVar 5))
noncomputable def F__law_turned : Fn := dDef 2 6 (dSeq (dSet 2 (dCall G__law_digits (dCons (dVar 1) (dCons (dLst (dCons (dC (D.int 6)) (dCons (dC (D.int 9)) (dCons (dC (D.int 10)) dNil)))) dNil)))) (dSeq (dSet 3 (dCB bList (dCons (dBin oIx (dVar 0) (dC (D.int 1))) dNil))) (dSeq (dSet 4 (dBin oMod (dCB bInt (dCons (dBin oIx (dVar 2) (dC (D.int 1))) dNil)) (dCB bLen (dCons (dVar 3) dNil)))) (dSeq (dIf (dTest (dBin oEq (dBin oIx (dVar 2) (dC (D.int 0))) (dC (D.int 0)))) (dRet (dTup (dCons (dC (D.int 9)) (dCons (dBin oIx (dVar 0) (dC (D.int 1))) (dCons (dBin oIx (dVar 0) (dC (D.int 2))) (dCons (dBin oIx (dVar 0) (dC (D.int 3))) (dCons (dBin oIx (dVar 0) (dC (D.int 4))) dNil))))))) dSkip) (dSeq (dIf (dTest (dBin oEq (dBin oIx (dVar 2) (dC (D.int 0))) (dC (D.int 1)))) (dRet (dTup (dCons (dBin oIx (dVar 0) (dC (D.int 0))) (dCons (dBin oIx (dVar 0) (dC (D.int 1))) (dCons (dBin oIx (dVar 2) (dC (D.int 2))) (dCons (dBin oIx (dVar 0) (dC (D.int 3))) (dCons (dBin oIx (dVar 0) (dC (D.int 4))) dNil))))))) dSkip) (dSeq (dIf (dTest (dBin oEq (dBin oIx (dVar 2) (dC (D.int 0))) (dC (D.int 2)))) (dRet (dTup (dCons (dBin oIx (dVar 0) (dC (D.int 0))) (dCons (dBin oIx (dVar 0) (dC (D.int 1))) (dCons (dBin oIx (dVar 0) (dC (D.int 2))) (dCons (dBin oIx (dVar 2) (dC (D.int 2))) (dCons (dBin oIx (dVar 0) (dC (D.int 4))) dNil))))))) dSkip) (dSeq (dIf (dTest (dBin oEq (dBin oIx (dVar 2) (dC (D.int 0))) (dC (D.int 3)))) (dRet (dTup (dCons (dBin oIx (dVar 0) (dC (D.int 0))) (dCons (dBin oIx (dVar 0) (dC (D.int 1))) (dCons (dBin oIx (dVar 0) (dC (D.int 2))) (dCons (dBin oIx (dVar 0) (dC (D.int 3))) (dCons (dBin oMod (dCB bInt (dCons (dBin oIx (dVar 2) (dC (D.int 2))) dNil)) (dBin oIx (dVar 0) (dC (D.int 0)))) dNil))))))) dSkip) (dSeq (dIf (dAndT (dTest (dBin oEq (dBin oIx (dVar 2) (dC (D.int 0))) (dC (D.int 4)))) (dTest (dBin oNotN (dBin oIx (dBin oIx (dVar 3) (dVar 4)) (dC (D.int 0))) (dC D.non)))) (dPut (dVar 3) (dVar 4) (dTup (dCons (dBin oIx (dVar 2) (dC (D.int 2))) (dCons (dBin oIx (dBin oIx (dVar 3) (dVar 4)) (dC (D.int 1))) dNil)))) dSkip) (dSeq (dIf (dTest (dBin oEq (dBin oIx (dVar 2) (dC (D.int 0))) (dC (D.int 5)))) (dPut (dVar 3) (dVar 4) (dTup (dCons (dBin oIx (dBin oIx (dVar 3) (dVar 4)) (dC (D.int 0))) (dCons (dCB bTuple (dCons (dLc (dIter (dBin oIx (dBin oIx (dVar 3) (dVar 4)) (dC (D.int 1)))) (gN 5) dYes C__law_turned_1 [5]) dNil)) dNil)))) dSkip) (dRet (dTup (dCons (dBin oIx (dVar 0) (dC (D.int 0))) (dCons (dCB bTuple (dCons (dVar 3) dNil)) (dCons (dBin oIx (dVar 0) (dC (D.int 2))) (dCons (dBin oIx (dVar 0) (dC (D.int 3))) (dCons (dBin oIx (dVar 0) (dC (D.int 4))) dNil))))))))))))))))
theorem ok__law_turned (T : Txt K mg) (h__law_digits : Has P w K mg base 2 "_law_digits" ["_law_cell_here", "_law_sizes"] G__law_digits) {f : Addr} {fd : FuncData} (F : Fun K "_law_turned" "_law_turned" s__law_turned f fd) : FnOk P w K mg base (L2.CX P w) 3 f fd ["_law_shape", "_law_cell_here"] (spD K mg F__law_turned) := by
  refine fn_ok F sc__law_turned (fun cdv A outer s H E hr => ?_)
  have nd := sc__law_turned.nd
  have hp := passes_of (X := cxOf (L2.CX P w) P w K mg base ["_law_shape", "_law_cell_here", "_law_digits_here", "_law_rows", "_law_b", "_law_page"] "_law_turned" (defScope s__law_turned) f cdv A outer s H E) (K := fun e s'' => L2.CX P w outer H s E e s'') rfl
  have tk := takes_of (X := cxOf (L2.CX P w) P w K mg base ["_law_shape", "_law_cell_here", "_law_digits_here", "_law_rows", "_law_b", "_law_page"] "_law_turned" (defScope s__law_turned) f cdv A outer s H E) (E := E) rfl rfl rfl rfl
  exact (dss_cons (ds_set 2 nd (de_has h__law_digits hr (by decide) tk (da_cons (de_var 1) (da_cons (de_lst (da_cons de_int (da_cons de_int (da_cons de_int da_nil)))) da_nil)))) (dss_cons (ds_set 3 nd (de_callTy call_list_of cs_list T.n_list (da_cons (de_ix (hu_of hr) (de_var 0) de_int) da_nil))) (dss_cons (ds_set 4 nd (de_op op_mod os_mod (de_callTy call_intX cs_int T.n_int (da_cons (de_ix (hu_of hr) (de_var 2) de_int) da_nil)) (de_callB call_len cs_len T.n_len (da_cons (de_var 3) da_nil)))) (dss_cons (ds_if (dt_cmp (op_eqX hr.units) os_eq (de_ix (hu_of hr) (de_var 2) de_int) de_int) (dss_one (ds_ret (de_tup (da_cons de_int (da_cons (de_ix (hu_of hr) (de_var 0) de_int) (da_cons (de_ix (hu_of hr) (de_var 0) de_int) (da_cons (de_ix (hu_of hr) (de_var 0) de_int) (da_cons (de_ix (hu_of hr) (de_var 0) de_int) da_nil)))))))) dss_nil) (dss_cons (ds_if (dt_cmp (op_eqX hr.units) os_eq (de_ix (hu_of hr) (de_var 2) de_int) de_int) (dss_one (ds_ret (de_tup (da_cons (de_ix (hu_of hr) (de_var 0) de_int) (da_cons (de_ix (hu_of hr) (de_var 0) de_int) (da_cons (de_ix (hu_of hr) (de_var 2) de_int) (da_cons (de_ix (hu_of hr) (de_var 0) de_int) (da_cons (de_ix (hu_of hr) (de_var 0) de_int) da_nil)))))))) dss_nil) (dss_cons (ds_if (dt_cmp (op_eqX hr.units) os_eq (de_ix (hu_of hr) (de_var 2) de_int) de_int) (dss_one (ds_ret (de_tup (da_cons (de_ix (hu_of hr) (de_var 0) de_int) (da_cons (de_ix (hu_of hr) (de_var 0) de_int) (da_cons (de_ix (hu_of hr) (de_var 0) de_int) (da_cons (de_ix (hu_of hr) (de_var 2) de_int) (da_cons (de_ix (hu_of hr) (de_var 0) de_int) da_nil)))))))) dss_nil) (dss_cons (ds_if (dt_cmp (op_eqX hr.units) os_eq (de_ix (hu_of hr) (de_var 2) de_int) de_int) (dss_one (ds_ret (de_tup (da_cons (de_ix (hu_of hr) (de_var 0) de_int) (da_cons (de_ix (hu_of hr) (de_var 0) de_int) (da_cons (de_ix (hu_of hr) (de_var 0) de_int) (da_cons (de_ix (hu_of hr) (de_var 0) de_int) (da_cons (de_op op_mod os_mod (de_callTy call_intX cs_int T.n_int (da_cons (de_ix (hu_of hr) (de_var 2) de_int) da_nil)) (de_ix (hu_of hr) (de_var 0) de_int)) da_nil)))))))) dss_nil) (dss_cons (ds_if (PW.pt (dw_and (dt_cmp (op_eqX hr.units) os_eq (de_ix (hu_of hr) (de_var 2) de_int) de_int) (dw_and1 (dt_cmp op_notX os_not (de_ix (hu_of hr) (de_ix (hu_of hr) (de_var 3) (de_var 4)) de_int) de_non)))) (dss_one (ds_put (hu_of hr) (de_var 3) (de_var 4) (de_tup (da_cons (de_ix (hu_of hr) (de_var 2) de_int) (da_cons (de_ix (hu_of hr) (de_ix (hu_of hr) (de_var 3) (de_var 4)) de_int) da_nil))))) dss_nil) (dss_cons (ds_if (dt_cmp (op_eqX hr.units) os_eq (de_ix (hu_of hr) (de_var 2) de_int) de_int) (dss_one (ds_put (hu_of hr) (de_var 3) (de_var 4) (de_tup (da_cons (de_ix (hu_of hr) (de_ix (hu_of hr) (de_var 3) (de_var 4)) de_int) (da_cons (de_callTy call_tupX cs_tuple T.n_tuple (da_cons (de_lc rfl nd (di_any (de_ix (hu_of hr) (de_ix (hu_of hr) (de_var 3) (de_var 4)) de_int)) (blkOk_by (N := ["_law_shape", "_law_cell_here", "_law_digits_here", "_law_rows", "_law_b", "_law_page"]) (sc := defScope s__law_turned) (own := [("_law_page", 5)]) (by decide +kernel)) (fun _ _ _ _ _ => (dg_name 5 nd)) (fun _ _ _ _ _ => dts_nil) (fun _ _ _ _ _ => (de_if (dt_tru (de_is .int (by decide) T.n_isinstance T.n_int (de_var 5))) de_str (de_var 5)))) da_nil)) da_nil))))) dss_nil) (dss_one (ds_ret (de_tup (da_cons (de_ix (hu_of hr) (de_var 0) de_int) (da_cons (de_callTy call_tupX cs_tuple T.n_tuple (da_cons (de_var 3) da_nil)) (da_cons (de_ix (hu_of hr) (de_var 0) de_int) (da_cons (de_ix (hu_of hr) (de_var 0) de_int) (da_cons (de_ix (hu_of hr) (de_var 0) de_int) da_nil)))))))))))))))))
noncomputable def G__law_turned : Fn := trimF F__law_turned
theorem rows_set_ok {s : Sh} {np : Nat} (ok : s.ok np) {i : Nat} {x b : Bk} (hx : s.rows[i]? = some x) (bok : b.ok s.keys np) (sub : ∀ (a k : Nat), b.pgs[a]? = some (Pg.key k) → x.pgs[a]? = some (Pg.key k)) : (Sh.mk s.keys (s.rows.set i b) s.fails s.cuts s.asked).ok np := by
  have il := (List.getElem?_eq_some_iff.mp hx).1
  have back : ∀ (j : Nat) (y : Bk), (s.rows.set i b)[j]? = some y → ∃ z : Bk, s.rows[j]? = some z ∧ ∀ (a k : Nat), y.pgs[a]? = some (Pg.key k) → z.pgs[a]? = some (Pg.key k) := fun j y hy => by
    by_cases q : i = j
    · subst q
      rw [List.getElem?_set_self il] at hy
      cases hy
      exact ⟨x, hx, sub⟩
    · rw [List.getElem?_set_ne q] at hy
      exact ⟨y, hy, fun _ _ h => h⟩
  refine ⟨ok.keys, by show 1 ≤ (s.rows.set i b).length ∧ _; rw [List.length_set]; exact ok.many, ok.pages, fun y hy => ?_, fun j j' a c y y' k h1 h2 h3 h4 => ?_, ok.fails, ok.cuts, ok.asked⟩
  · have hy : y ∈ s.rows.set i b := hy
    rcases List.mem_or_eq_of_mem_set hy with hy | rfl
    · exact ok.rows y hy
    · exact bok
  · obtain ⟨z, z1, z2⟩ := back j y h1
    obtain ⟨z', z3, z4⟩ := back j' y' h2
    exact ok.once j j' a c z z' k z1 z3 (z2 a k h3) (z4 c k h4)
theorem mod_at (d : Int) {m : Nat} (hm : 0 < m) : ∃ p : Nat, d % (m : Int) = (p : Int) ∧ p < m := by
  have h1 := Int.emod_nonneg d (b := (m : Int)) (by omega)
  have h2 := Int.emod_lt_of_pos d (b := (m : Int)) (by omega)
  exact ⟨(d % (m : Int)).toNat, by omega, by omega⟩
def oldK : Pg → Pg
  | .key _ => .old
  | p => p
theorem bk_lt_up {b : Bk} {k k' np : Nat} (ok : b.ok k np) (h : k ≤ k') : b.ok k' np := ⟨ok.len, fun p hp => by
  have := ok.lt p hp
  cases p with
  | key j => exact Nat.lt_of_lt_of_le this h
  | _ => trivial, ok.tail, ok.left, ok.bad⟩
theorem eq__law_turned {s : Sh} {np : Nat} (ok : s.ok np) (c : Int) (h : DH) : ∃ t : Sh, t.ok np ∧ G__law_turned [s.d, .int c] h = .ok t.d h := by
  have many := ok.many
  have keys := ok.keys
  obtain ⟨A, hA⟩ : ∃ A, A = [D.int 6, .int 9, .int 10] := ⟨_, rfl⟩
  have dg := eq__law_digits c h.length [6, 9, 10] (h ++ [.lst ([6, 9, 10].map D.int)]) at_new (fun s hs => okS (by simp at hs; omega) (by simp at hs; omega)) (by decide)
  have bl := digits_below c [6, 9, 10] (by decide)
  generalize digits c [6, 9, 10] = dl at bl dg
  cases bl with
  | @cons k _ _ _ bk bl =>
  cases bl with
  | @cons pl _ _ _ bp bl =>
  cases bl with
  | @cons nr _ _ _ bn bl =>
  cases bl
  obtain ⟨n, rfl⟩ : ∃ n : Nat, nr = (n : Int) := ⟨nr.toNat, by omega⟩
  have e2 : (h ++ [Cell.lst ([6, 9, 10].map D.int)]).length = h.length + 1 := by simp
  rw [e2, List.append_assoc] at dg
  have dg' : G__law_digits [.int c, .ref h.length] (h ++ [.lst A]) = .ok (.ref (h.length + 1)) (h ++ [.lst A, .lst [.int k, .int pl, .int (n : Int)]]) := by rw [hA]; exact dg
  have Al : A.length = 3 := by rw [hA]; rfl
  obtain ⟨p, ep, plt⟩ := mod_at pl (m := s.rows.length) (by omega)
  have hx : s.rows[p]? = some s.rows[p] := List.getElem?_eq_getElem plt
  obtain ⟨x, hxx⟩ : ∃ x, x = s.rows[p] := ⟨_, rfl⟩
  rw [← hxx] at hx
  have xok := ok.rows x (List.mem_of_getElem? hx)
  obtain ⟨R, hR⟩ : ∃ R, R = s.rows.map Bk.d := ⟨_, rfl⟩
  have Rl : R.length = s.rows.length := by rw [hR, List.length_map]
  have Rx : R[p]? = some x.d := by rw [hR, List.getElem?_map, hx]; rfl
  have rdL : ∀ H, bList [s.rd] H = .ok (.ref H.length) (H ++ [.lst R]) := fun H => by rw [hR]; exact bList_tup
  have rdE : s.rd = .tup R := by rw [hR]; rfl
  have om : ∀ H, oMod (.int pl) (.int (s.rows.length : Int)) H = .ok (.int (p : Int)) H := fun H => by rw [oMod_int (by omega), ep]
  have q1 : ∀ g, (h ++ Cell.lst A :: .lst [.int k, .int pl, .int (n : Int)] :: g)[h.length + 1]? = some (.lst [.int k, .int pl, .int (n : Int)]) := fun g => by rw [hp_k]; rfl
  have d0 : ∀ g, oIx (.ref (h.length + 1)) (.int 0) (h ++ Cell.lst A :: .lst [.int k, .int pl, .int (n : Int)] :: g) = .ok (.int k) (h ++ Cell.lst A :: .lst [.int k, .int pl, .int (n : Int)] :: g) := fun g => by rw [oIx_at (q1 g), atI_0]; rfl
  have d1 : ∀ g, oIx (.ref (h.length + 1)) (.int 1) (h ++ Cell.lst A :: .lst [.int k, .int pl, .int (n : Int)] :: g) = .ok (.int pl) (h ++ Cell.lst A :: .lst [.int k, .int pl, .int (n : Int)] :: g) := fun g => by rw [oIx_at (q1 g), atI_1]; rfl
  have d2 : ∀ g, oIx (.ref (h.length + 1)) (.int 2) (h ++ Cell.lst A :: .lst [.int k, .int pl, .int (n : Int)] :: g) = .ok (.int (n : Int)) (h ++ Cell.lst A :: .lst [.int k, .int pl, .int (n : Int)] :: g) := fun g => by rw [oIx_at (q1 g), atI_2]; rfl
  have G0 : ∀ (l : List D) (g : DH), (h ++ Cell.lst A :: .lst [.int k, .int pl, .int (n : Int)] :: .lst l :: g)[h.length + 2]? = some (.lst l) := fun l g => by rw [hp_k]; rfl
  have ln : ∀ g, bLen [.ref (h.length + 2)] (h ++ Cell.lst A :: .lst [.int k, .int pl, .int (n : Int)] :: .lst R :: g) = .ok (.int (s.rows.length : Int)) (h ++ Cell.lst A :: .lst [.int k, .int pl, .int (n : Int)] :: .lst R :: g) := fun g => by rw [bLen_lst (G0 R g), Rl]
  have ix : ∀ g, oIx (.ref (h.length + 2)) (.int (p : Int)) (h ++ Cell.lst A :: .lst [.int k, .int pl, .int (n : Int)] :: .lst R :: g) = .ok x.d (h ++ Cell.lst A :: .lst [.int k, .int pl, .int (n : Int)] :: .lst R :: g) := fun g => by
    rw [oIx_at (G0 R g), atI_n Rx]; rfl
  have pt : ∀ v g, sPut (.ref (h.length + 2)) (.int (p : Int)) v (h ++ Cell.lst A :: .lst [.int k, .int pl, .int (n : Int)] :: .lst R :: g) = .ok .non (h ++ Cell.lst A :: .lst [.int k, .int pl, .int (n : Int)] :: .lst (R.set p v) :: g) := fun v g => by
    rw [put_at (G0 R g) (by omega), hs_k]; rfl
  have tp : ∀ l g, bTuple [.ref (h.length + 2)] (h ++ Cell.lst A :: .lst [.int k, .int pl, .int (n : Int)] :: .lst l :: g) = .ok (.tup l) (h ++ Cell.lst A :: .lst [.int k, .int pl, .int (n : Int)] :: .lst l :: g) := fun l g => bTuple_lst (G0 l g)
  have nn : ∀ H, oNotN x.left.d .non H = .ok (.bl (!decide (x.left = .bad))) H := fun H => Lf.notN x.left H
  have a4 : ∀ H, oIx s.d (.int 4) H = .ok (optD s.asked) H := fun H => sh_4
  have k6 : k < 6 := by omega
  have n10 : n < 10 := by omega
  have fin : ∀ (t : Sh) (g : DH), t.ok np → F__law_turned [s.d, .int c] h = .ok t.d (h ++ g) → ∃ t : Sh, t.ok np ∧ G__law_turned [s.d, .int c] h = .ok t.d h := fun t g o e => ⟨t, o, trim_val (g := g) e (Sh.cl t)⟩
  have td : ∀ (ks f c : Nat) (rows : List Bk) (a : Option Nat), (Sh.mk ks rows f c a).d = .tup [.int (ks : Int), .tup (rows.map Bk.d), .int (f : Int), .int (c : Int), optD a] := fun _ _ _ _ _ => rfl
  have rs : ∀ b : Bk, (s.rows.set p b).map Bk.d = R.set p b.d := fun b => by rw [List.map_set, hR]
  have sd : s.d = .tup [.int (s.keys : Int), .tup R, .int (s.fails : Int), .int (s.cuts : Int), optD s.asked] := by rw [hR]; rfl
  by_cases k0 : k = 0
  · subst k0
    refine fin ⟨9, s.rows, s.fails, s.cuts, s.asked⟩ [.lst A, .lst [.int 0, .int pl, .int (n : Int)], .lst R] ⟨by show 1 ≤ 9 ∧ 9 ≤ 9; omega, ok.many, ok.pages, fun b hb => bk_lt_up (ok.rows b hb) keys.2, ok.once, ok.fails, ok.cuts, fun k e => by have := ok.asked k e; show k < 9; omega⟩ ?_
    have e := td 9 s.fails s.cuts s.rows s.asked
    rw [← hR] at e
    refine Eq.trans ?_ (congrArg (fun d => Res.ok d _) e.symm)
    clear e sd
    generalize optD s.asked = od at *
    simp -implicitDefEqProofs [F__law_turned, ← hA, Al, dg', d0, d1, d2, sh_1, rdE, rdL, ln, om, a4, tp, sh_0, sh_2, sh_3]
  by_cases k1 : k = 1
  · subst k1
    refine fin ⟨s.keys, s.rows, n, s.cuts, s.asked⟩ [.lst A, .lst [.int 1, .int pl, .int (n : Int)], .lst R] ⟨keys, ok.many, ok.pages, ok.rows, ok.once, by show n ≤ 9; omega, ok.cuts, ok.asked⟩ ?_
    have e := td s.keys n s.cuts s.rows s.asked
    rw [← hR] at e
    refine Eq.trans ?_ (congrArg (fun d => Res.ok d _) e.symm)
    clear e sd
    generalize optD s.asked = od at *
    simp -implicitDefEqProofs [F__law_turned, ← hA, Al, dg', d0, d1, d2, sh_1, rdE, rdL, ln, om, a4, tp, sh_0, sh_2, sh_3]
  by_cases k2 : k = 2
  · subst k2
    refine fin ⟨s.keys, s.rows, s.fails, n, s.asked⟩ [.lst A, .lst [.int 2, .int pl, .int (n : Int)], .lst R] ⟨keys, ok.many, ok.pages, ok.rows, ok.once, ok.fails, by show n ≤ 9; omega, ok.asked⟩ ?_
    have e := td s.keys s.fails n s.rows s.asked
    rw [← hR] at e
    refine Eq.trans ?_ (congrArg (fun d => Res.ok d _) e.symm)
    clear e sd
    generalize optD s.asked = od at *
    simp -implicitDefEqProofs [F__law_turned, ← hA, Al, dg', d0, d1, d2, sh_1, rdE, rdL, ln, om, a4, tp, sh_0, sh_2, sh_3]
  by_cases k3 : k = 3
  · subst k3
    obtain ⟨q, eq, qlt⟩ := mod_at (n : Int) (m := s.keys) (by omega)
    have om2 : ∀ H, oMod (.int (n : Int)) (.int (s.keys : Int)) H = .ok (.int (q : Int)) H := fun H => by rw [oMod_int (by omega), eq]
    refine fin ⟨s.keys, s.rows, s.fails, s.cuts, some q⟩ [.lst A, .lst [.int 3, .int pl, .int (n : Int)], .lst R] ⟨keys, ok.many, ok.pages, ok.rows, ok.once, ok.fails, ok.cuts, fun k e => by cases e; exact qlt⟩ ?_
    have e := td s.keys s.fails s.cuts s.rows (some q)
    rw [← hR, optD_some] at e
    refine Eq.trans ?_ (congrArg (fun d => Res.ok d _) e.symm)
    clear e sd
    generalize optD s.asked = od at *
    simp -implicitDefEqProofs [F__law_turned, ← hA, Al, dg', d0, d1, d2, sh_1, rdE, rdL, ln, om, om2, a4, tp, sh_0, sh_2, sh_3]
  by_cases k4 : k = 4
  · subst k4
    by_cases xb : x.left = .bad
    · refine fin s [.lst A, .lst [.int 4, .int pl, .int (n : Int)], .lst R] ok ?_
      rw [xb] at nn
      have nn' : ∀ H, oNotN Lf.bad.d .non H = .ok (.bl false) H := nn
      have xd : x.d = .tup [Lf.bad.d, x.pd] := by rw [Bk.d, xb]
      rw [xd] at ix
      refine Eq.trans ?_ (congrArg (fun d => Res.ok d _) sd.symm)
      clear sd
      generalize optD s.asked = od at *
      simp -implicitDefEqProofs [F__law_turned, ← hA, Al, dg', d0, d1, d2, sh_1, rdE, rdL, ln, om, ix, oIx_tupX, atI_0, nn', a4, tp, sh_0, sh_2, sh_3]
    · have bok : (Bk.mk (.num n) x.pgs).ok s.keys np := ⟨xok.len, xok.lt, xok.tail, fun m e => by cases e; omega, fun e => by cases e⟩
      refine fin ⟨s.keys, s.rows.set p ⟨.num n, x.pgs⟩, s.fails, s.cuts, s.asked⟩ [.lst A, .lst [.int 4, .int pl, .int (n : Int)], .lst (R.set p (.tup [.int (n : Int), x.pd]))] (rows_set_ok ok hx bok fun _ _ h => h) ?_
      have e := td s.keys s.fails s.cuts (s.rows.set p ⟨.num n, x.pgs⟩) s.asked
      rw [rs] at e
      have nn' : ∀ H, oNotN x.left.d .non H = .ok (.bl true) H := fun H => by rw [nn H]; simp [xb]
      have xd : x.d = .tup [x.left.d, x.pd] := rfl
      have bd : (Bk.mk (.num n) x.pgs).d = .tup [.int (n : Int), x.pd] := rfl
      rw [bd] at e
      rw [xd] at ix
      refine Eq.trans ?_ (congrArg (fun d => Res.ok d _) e.symm)
      clear e sd
      generalize optD s.asked = od at *
      simp -implicitDefEqProofs [F__law_turned, ← hA, Al, dg', d0, d1, d2, sh_1, rdE, rdL, ln, om, ix, oIx_tupX, atI_0, atI_1, nn', pt, a4, tp, sh_0, sh_2, sh_3]
  have k5 : k = 5 := by omega
  subst k5
  have lc := lc_typed (h := h ++ Cell.lst A :: .lst [.int 5, .int pl, .int (n : Int)] :: .lst R :: []) (keep := fun _ => True) (gg := gN 5) (t := dYes) (e := C__law_turned_1) (σ := [some s.d, some (.int c), some (.ref (h.length + 1)), some (.ref (h.length + 2)), some (.int (p : Int)), none]) Pg.d (fun _ => true) (fun q => (oldK q).d) (fun _ => trivial) x.pgs [] (by rw [xok.len]; have := ok.pages; simp; omega) (fun q _ => ⟨_, rfl, fun _ => rfl, fun _ acc => by
    cases q with
    | free => simp -implicitDefEqProofs [C__law_turned_1, Pg.d, oldK]
    | old => simp -implicitDefEqProofs [C__law_turned_1, Pg.d, oldK]
    | key j => simp -implicitDefEqProofs [C__law_turned_1, Pg.d, oldK]⟩)
  rw [List.nil_append, List.filter_eq_self.mpr (fun _ _ => rfl)] at lc
  obtain ⟨PD, hPD⟩ : ∃ PD, PD = x.pgs.map fun q => (oldK q).d := ⟨_, rfl⟩
  rw [← hPD] at lc
  have bok : (Bk.mk x.left (x.pgs.map oldK)).ok s.keys np := by
    have fr : ∀ q, oldK q = .free ↔ q = .free := fun q => by cases q <;> simp [oldK]
    refine ⟨by rw [List.length_map]; exact xok.len, fun q hq => ?_, fun i j ij hi q hj => ?_, xok.left, fun e m => ?_⟩
    · obtain ⟨r, hr, rfl⟩ := List.mem_map.mp hq
      cases r <;> trivial
    · simp only [List.getElem?_map] at hi hj
      obtain ⟨r, hr, er⟩ := Option.map_eq_some_iff.mp hi
      obtain ⟨r2, hr2, rfl⟩ := Option.map_eq_some_iff.mp hj
      have := xok.tail i j ij (by rw [hr, (fr r).mp er]) r2 hr2
      rw [this]
      rfl
    · obtain ⟨r, hr, er⟩ := List.mem_map.mp m
      rw [(fr r).mp er] at hr
      exact xok.bad e hr
  refine fin ⟨s.keys, s.rows.set p ⟨x.left, x.pgs.map oldK⟩, s.fails, s.cuts, s.asked⟩ [.lst A, .lst [.int 5, .int pl, .int (n : Int)], .lst (R.set p (.tup [x.left.d, .tup PD])), .lst PD] (rows_set_ok ok hx bok fun a k h => ?_) ?_
  · simp only [List.getElem?_map] at h
    obtain ⟨r, hr, er⟩ := Option.map_eq_some_iff.mp h
    cases r <;> cases er
  · have e := td s.keys s.fails s.cuts (s.rows.set p ⟨x.left, x.pgs.map oldK⟩) s.asked
    rw [rs] at e
    have xd : x.d = .tup [x.left.d, x.pd] := rfl
    have bd : (Bk.mk x.left (x.pgs.map oldK)).d = .tup [x.left.d, .tup PD] := by rw [hPD]; unfold Bk.d Bk.pd; rw [List.map_map]; rfl
    rw [bd] at e
    rw [xd] at ix
    have tp2 : bTuple [.ref (h.length + 3)] (h ++ [Cell.lst A, .lst [.int 5, .int pl, .int (n : Int)], .lst R, .lst PD]) = .ok (.tup PD) (h ++ [Cell.lst A, .lst [.int 5, .int pl, .int (n : Int)], .lst R, .lst PD]) := bTuple_lst (by rw [hp_k]; rfl)
    have l3 : (h ++ [Cell.lst A, .lst [.int 5, .int pl, .int (n : Int)], .lst R]).length = h.length + 3 := by simp
    rw [l3, List.append_assoc, List.cons_append, List.cons_append, List.cons_append, List.nil_append] at lc
    refine Eq.trans ?_ (congrArg (fun d => Res.ok d _) e.symm)
    clear e sd
    generalize optD s.asked = od at *
    generalize x.left.d = xl at *
    simp -implicitDefEqProofs [F__law_turned, ← hA, Al, dg', d0, d1, d2, sh_1, rdE, rdL, ln, om, ix, oIx_tupX, atI_0, atI_1, iter_pd, wipeD, lc, tp2, pt, a4, tp, sh_0, sh_2, sh_3]
theorem has__law_turned (A : All K mg) : Has P w K mg base 3 "_law_turned" ["_law_shape", "_law_cell_here"] G__law_turned := Has.trim (has_of A.e__law_turned fun f fd F => ok__law_turned A.T (has__law_digits A) F) (trimF_ok F__law_turned)
/-! ### _law_is_shape -/
noncomputable def F__law_is_shape : Fn := dDef 1 1 (dSeq (dIf (dOrT (dNotT (dTru (dIs .tup (dVar 0)))) (dOrT (dTest (dBin oNe (dCB bLen (dCons (dVar 0) dNil)) (dC (D.int 5)))) (dNotT (dTru (dIs .tup (dBin oIx (dVar 0) (dC (D.int 1)))))))) (dRet (dC (D.bl false))) dSkip) (dRet (dBin oEq (dCall G__law_bad_part (dCons (dTup (dCons (dBin oIx (dVar 0) (dC (D.int 0))) (dCons (dCB bList (dCons (dBin oIx (dVar 0) (dC (D.int 1))) dNil)) (dCons (dBin oIx (dVar 0) (dC (D.int 2))) (dCons (dBin oIx (dVar 0) (dC (D.int 3))) (dCons (dBin oIx (dVar 0) (dC (D.int 4))) dNil)))))) dNil)) (dC (D.str "")))))
theorem ok__law_is_shape (T : Txt K mg) (h__law_bad_part : Has P w K mg base 5 "_law_bad_part" ["_law_parts"] G__law_bad_part) {f : Addr} {fd : FuncData} (F : Fun K "_law_is_shape" "_law_is_shape" s__law_is_shape f fd) : FnOk P w K mg base (L2.CX P w) 6 f fd ["_law_thing"] (spD K mg F__law_is_shape) := by
  refine fn_ok F sc__law_is_shape (fun cdv A outer s H E hr => ?_)
  have nd := sc__law_is_shape.nd
  have hp := passes_of (X := cxOf (L2.CX P w) P w K mg base ["_law_thing"] "_law_is_shape" (defScope s__law_is_shape) f cdv A outer s H E) (K := fun e s'' => L2.CX P w outer H s E e s'') rfl
  have tk := takes_of (X := cxOf (L2.CX P w) P w K mg base ["_law_thing"] "_law_is_shape" (defScope s__law_is_shape) f cdv A outer s H E) (E := E) rfl rfl rfl rfl
  exact (dss_cons (ds_if (PW.pt (dw_or (dt_not (dt_tru (de_is .tup (by decide) T.n_isinstance T.n_tuple (de_var 0)))) (dw_or (dt_cmp (op_neX hr.units) os_ne (de_callB call_len cs_len T.n_len (da_cons (de_var 0) da_nil)) de_int) (dw_or1 (dt_not (dt_tru (de_is .tup (by decide) T.n_isinstance T.n_tuple (de_ix (hu_of hr) (de_var 0) de_int)))))))) (dss_one (ds_ret de_bl)) dss_nil) (dss_one (ds_ret (de_cmp (op_eqX hr.units) os_eq (de_has h__law_bad_part hr (by decide) tk (da_cons (de_tup (da_cons (de_ix (hu_of hr) (de_var 0) de_int) (da_cons (de_callTy call_list_of cs_list T.n_list (da_cons (de_ix (hu_of hr) (de_var 0) de_int) da_nil)) (da_cons (de_ix (hu_of hr) (de_var 0) de_int) (da_cons (de_ix (hu_of hr) (de_var 0) de_int) (da_cons (de_ix (hu_of hr) (de_var 0) de_int) da_nil)))))) da_nil)) de_str))))
noncomputable def G__law_is_shape : Fn := trimF F__law_is_shape
theorem okN_down {h : DH} : ∀ {n : Nat} {x : D}, OkN h (n + 1) x → OkN h n x
  | 0, _, o => o.1
  | n + 1, _, o => ⟨o.1, fun l e => ⟨(o.2 l e).1, fun d hd => okN_down ((o.2 l e).2 d hd)⟩⟩
theorem any__law_is_shape {x : D} {h : DH} (o : OkN h 4 x) : G__law_is_shape [x] h = .ok (.bl (cB (ShP x))) h := by
  have nt : (∀ l, x ≠ .tup l) → ¬ ShP x := fun n ⟨s, _, _, e⟩ => n _ e
  cases x with
  | tup ds =>
    obtain ⟨_, od⟩ := o.2 ds rfl
    by_cases l5 : ds.length = 5
    · obtain ⟨k, r, f, c, a, rfl⟩ : ∃ k r f c a, ds = [k, r, f, c, a] := by
        match ds, l5 with
        | [k, r, f, c, a], _ => exact ⟨k, r, f, c, a, rfl⟩
      have or := od r (by simp)
      have nr : (∀ l, r ≠ .tup l) → ¬ ShP (.tup [k, r, f, c, a]) := fun n ⟨s, np, ok, e⟩ => by
        simp only [Sh.d, Sh.rd, D.tup.injEq, List.cons.injEq, and_true] at e
        exact n _ e.2.1
      have i3 : ∀ a b c d e : D, L2.atI [a, b, c, d, e] 3 = some d := fun _ _ _ _ _ => rfl
      have i4 : ∀ a b c d e : D, L2.atI [a, b, c, d, e] 4 = some e := fun _ _ _ _ _ => rfl
      cases r with
      | tup rd =>
        obtain ⟨_, ord⟩ := or.2 rd rfl
        have bp := any__law_bad_part (h := h ++ [.lst rd]) (n := h.length) (k := k) (f := f) (c := c) (a := a) (ds := rd) at_new (fun d hd => (ord d hd).ext) (od k (by simp)).ok.ext (od f (by simp)).ok.ext (od c (by simp)).ok.ext (od a (by simp)).ok.ext
        have e : cB (ShP (.tup [k, .tup rd, f, c, a])) = decide (partW k rd f c a = "") := cB_eq (by rw [shP_five, decide_eq_true_iff, partW_ok])
        rw [e]
        refine trim_val (g := [.lst rd]) ?_
        simp -implicitDefEqProofs [F__law_is_shape, oIx_tupX, atI_0, atI_1, atI_2, i3, i4, bp]
      | ref n =>
        rw [cB_not (nr fun _ e => by cases e)]
        have td : TN.tup.has .dic = some false := rfl
        refine trim_same ?_
        rcases or.1.ty with z | z <;> simp -implicitDefEqProofs [F__law_is_shape, oIx_tupX, atI_1, z, td]
      | rol _ => cases or.1
      | exn0 _ _ => cases or.1
      | exn1 _ _ _ _ _ => cases or.1
      | int b => rw [cB_not (nr fun _ e => by cases e)]; exact trim_same (by simp -implicitDefEqProofs [F__law_is_shape, oIx_tupX, atI_1])
      | bl b => rw [cB_not (nr fun _ e => by cases e)]; exact trim_same (by simp -implicitDefEqProofs [F__law_is_shape, oIx_tupX, atI_1])
      | non => rw [cB_not (nr fun _ e => by cases e)]; exact trim_same (by simp -implicitDefEqProofs [F__law_is_shape, oIx_tupX, atI_1])
      | str s => rw [cB_not (nr fun _ e => by cases e)]; exact trim_same (by simp -implicitDefEqProofs [F__law_is_shape, oIx_tupX, atI_1])
    · have no : ¬ ShP (.tup ds) := fun ⟨s, _, _, e⟩ => l5 (by unfold Sh.d at e; injection e with e; rw [e]; rfl)
      rw [cB_not no]
      have l5' : ¬ (ds.length : Int) = 5 := by omega
      exact trim_same (by simp -implicitDefEqProofs [F__law_is_shape, l5, l5'])
  | ref n =>
    rw [cB_not (nt fun _ e => by cases e)]
    have td : TN.tup.has .dic = some false := rfl
    refine trim_same ?_
    rcases o.1.ty with z | z <;> simp -implicitDefEqProofs [F__law_is_shape, z, td]
  | rol _ => cases o.1
  | exn0 _ _ => cases o.1
  | exn1 _ _ _ _ _ => cases o.1
  | int b => rw [cB_not (nt fun _ e => by cases e)]; exact trim_same (by simp -implicitDefEqProofs [F__law_is_shape])
  | bl b => rw [cB_not (nt fun _ e => by cases e)]; exact trim_same (by simp -implicitDefEqProofs [F__law_is_shape])
  | non => rw [cB_not (nt fun _ e => by cases e)]; exact trim_same (by simp -implicitDefEqProofs [F__law_is_shape])
  | str s => rw [cB_not (nt fun _ e => by cases e)]; exact trim_same (by simp -implicitDefEqProofs [F__law_is_shape])
theorem has__law_is_shape (A : All K mg) : Has P w K mg base 6 "_law_is_shape" ["_law_thing"] G__law_is_shape := Has.trim (has_of A.e__law_is_shape fun f fd F => ok__law_is_shape A.T (has__law_bad_part A) F) (trimF_ok F__law_is_shape)
/-! ### _law_made -/
noncomputable def B__law_made_1 : FS := (dSet 1 (dTup (dCons (dC (D.str "stand")) (dCons (dMeth "Stand" "shape" G_Stand_shape (dCall G_stand_of (dCons (dVar 0) dNil)) dNil) dNil))))
noncomputable def B__law_made_2 (ea : Addr) (eo : Option Addr) (ey : Str) : FS := (dSet 1 (dTup (dCons (dC (D.str "no")) (dCons (dXFl ["NoStand"] ea eo ey 2 "part") dNil))))
noncomputable def F__law_made : Fn := dDef 1 3 (dSeq (dSet 1 (dC D.non)) (dSeq (dTryE B__law_made_1 [("NoStand", true)] 2 B__law_made_2) (dRet (dVar 1))))
theorem ok__law_made (T : Txt K mg) (h_Stand_shape : HasM P w K mg base 1 "Stand" "shape" ["self"] G_Stand_shape) (h_stand_of : Has P w K mg base 10 "stand_of" ["shape"] G_stand_of) {f : Addr} {fd : FuncData} (F : Fun K "_law_made" "_law_made" s__law_made f fd) : FnOk P w K mg base (L2.CX P w) 11 f fd ["_law_thing"] (spD K mg F__law_made) := by
  refine fn_ok F sc__law_made (fun cdv A outer s H E hr => ?_)
  have nd := sc__law_made.nd
  have hp := passes_of (X := cxOf (L2.CX P w) P w K mg base ["_law_thing", "_law_told", "e"] "_law_made" (defScope s__law_made) f cdv A outer s H E) (K := fun e s'' => L2.CX P w outer H s E e s'') rfl
  have tk := takes_of (X := cxOf (L2.CX P w) P w K mg base ["_law_thing", "_law_told", "e"] "_law_made" (defScope s__law_made) f cdv A outer s H E) (E := E) rfl rfl rfl rfl
  exact (dss_cons (ds_set 1 nd de_non) (dss_cons (ds_tryE 2 nd tk T.h_NoStand (.cons T.m_NoStand_NoStand .nil) (fun _ _ _ tk hp => (dss_one (ds_set 1 nd (de_tup (da_cons de_str (da_cons (de_meth0 h_Stand_shape hr (by decide) tk (de_has h_stand_of hr (by decide) tk (da_cons (de_var 0) da_nil))) da_nil)))))) (fun _ _ _ _ _ _ gC hz hf => (dss_one (ds_set 1 nd (de_tup (da_cons de_str (da_cons (de_xf (l := ["NoStand"]) 2 (.cons T.xf_NoStand_part .nil) gC hz hf) da_nil))))))) (dss_one (ds_ret (de_var 1)))))
noncomputable def G__law_made : Fn := trimF F__law_made
theorem made_no {x : D} {h : DH} (o : OkN h 4 x) (no : ¬ ShP x) : G__law_made [x] h = .ok (.tup [.str "no", .str "shape"]) h := by
  have e := no_stand_of o no
  have tr : dTryE B__law_made_1 [("NoStand", true)] 2 B__law_made_2 [some x, some .non, none] h = .nx [some x, some (.tup [.str "no", .str "shape"]), none] h := by
    have bd : B__law_made_1 [some x, some .non, none] h = .exc ⟨"NoStand", [("part", .str "shape")]⟩ [some x, some .non, none] h := by
      simp -implicitDefEqProofs [B__law_made_1, e]
    have lk : lookE (Str.ofString "NoStand") [("NoStand", true)] = some true := by decide +kernel
    unfold dTryE
    rw [bd]
    simp only [lk]
    rw [if_pos (by simp)]
    refine allA_of fun a dd => ?_
    have gs : getS [some x, some .non, some (.exn1 a dd "NoStand" "part" (.str "shape"))] 2 = some (.exn1 a dd "NoStand" "part" (.str "shape")) := rfl
    have fx := fun H => dXFl_at (h := H) (l := ["NoStand"]) gs (by decide +kernel)
    show RS.wipe 2 (B__law_made_2 a (some dd) "NoStand" [some x, some .non, some (.exn1 a dd "NoStand" "part" (.str "shape"))] h) = _
    simp -implicitDefEqProofs [B__law_made_2, fx, RS.wipe]
  refine trim_same ?_
  simp -implicitDefEqProofs [F__law_made, tr]
theorem made_yes {s : Sh} {np : Nat} (ok : s.ok np) (h : DH) : G__law_made [s.d] h = .ok (.tup [.str "stand", s.d]) h := by
  have e := eq_stand_of ok h
  have sh := eq_shape (s := s) (h := h ++ [stObj s]) (n := h.length) at_new
  have ob := obj_m (s := s) (h := h ++ [stObj s]) (n := h.length) at_new (m := "shape") (by decide +kernel)
  have cl := s.cl
  generalize s.d = sd at *
  have tr : dTryE B__law_made_1 [("NoStand", true)] 2 B__law_made_2 [some sd, some .non, none] h = .nx [some sd, some (.tup [.str "stand", sd]), none] (h ++ [stObj s]) := by
    have bd : B__law_made_1 [some sd, some .non, none] h = .nx [some sd, some (.tup [.str "stand", sd]), none] (h ++ [stObj s]) := by
      simp -implicitDefEqProofs [B__law_made_1, e, ob, sh]
    unfold dTryE
    rw [bd]
  refine trim_val (g := [stObj s]) ?_ (by simp [closed, closeds, cl])
  simp -implicitDefEqProofs [F__law_made, tr]
theorem has__law_made (A : All K mg) : Has P w K mg base 11 "_law_made" ["_law_thing"] G__law_made := Has.trim (has_of A.e__law_made fun f fd F => ok__law_made A.T (has_Stand_shape A) (has_stand_of A) F) (trimF_ok F__law_made)
/-! ### law -/
noncomputable def B_law_1 : FS := (dIf (dTest (dBin oNotN (dBin (eqZ "Stand" G_Stand___eq__) (dVar 4) (dVar 6)) (dC (D.bl false)))) (dRet (dC (D.bl false))) dSkip)
noncomputable def F_law : Fn := dDef 1 10 (dSeq (dSet 1 (dCall G__law_digits (dCons (dCall G__law_cell (dCons (dVar 0) (dCons (dC (D.int 0)) dNil))) (dCons (dLst (dCons (dC (D.int 2)) (dCons (dC (D.int 5)) (dCons (dC (D.int 5)) (dCons (dC (D.int 9)) (dCons (dC (D.int 9)) (dCons (dC (D.int 9)) (dCons (dC (D.int 16)) dNil)))))))) dNil)))) (dSeq (dSet 2 (dCall G__law_drawn (dCons (dVar 0) (dCons (dC (D.int 1)) dNil)))) (dSeq (dSet 3 (dCall G__law_drawn (dCons (dVar 0) (dCons (dC (D.int 11)) dNil)))) (dSeq (dIf (dTest (dBin oEq (dBin oIx (dVar 1) (dC (D.int 0))) (dC (D.int 0)))) (dSet 3 (dCall G__law_turned (dCons (dVar 2) (dCons (dCall G__law_cell (dCons (dVar 0) (dCons (dC (D.int 11)) dNil))) dNil)))) dSkip) (dSeq (dSet 4 (dCall G_stand_of (dCons (dVar 2) dNil))) (dSeq (dIf (dNotT (dTru (dCall (F__law_same 8) (dCons (dMeth "Stand" "shape" G_Stand_shape (dVar 4) dNil) (dCons (dVar 2) dNil))))) (dRet (dC (D.bl false))) dSkip) (dSeq (dIf (dOrT (dNotT (dTru (dCall (F__law_same 8) (dCons (dBin (eqZ "Stand" G_Stand___eq__) (dVar 4) (dCall G__law_stand (dCons (dVar 2) dNil))) (dCons (dC (D.bl true)) dNil))))) (dNotT (dTru (dCall (F__law_same 8) (dCons (dBin (eqZ "Stand" G_Stand___eq__) (dCall G__law_stand (dCons (dVar 2) dNil)) (dVar 4)) (dCons (dC (D.bl true)) dNil)))))) (dRet (dC (D.bl false))) dSkip) (dSeq (dSet 5 (dBin oEq (dVar 2) (dVar 3))) (dSeq (dIf (dOrT (dNotT (dTru (dCall (F__law_same 8) (dCons (dBin (eqZ "Stand" G_Stand___eq__) (dVar 4) (dCall G_stand_of (dCons (dVar 3) dNil))) (dCons (dVar 5) dNil))))) (dNotT (dTru (dCall (F__law_same 8) (dCons (dBin (eqZ "Stand" G_Stand___eq__) (dCall G_stand_of (dCons (dVar 3) dNil)) (dVar 4)) (dCons (dVar 5) dNil)))))) (dRet (dC (D.bl false))) dSkip) (dSeq (dFor (dIter (dLst (dCons (dVar 2) (dCons (dC D.non) (dCons (dC (D.str "")) (dCons (dC (D.int 0)) (dCons (dLst (dCons (dVar 4) dNil)) (dCons (dTup (dCons (dVar 4) dNil)) (dCons (dCB bList (dCons (dBin oIx (dVar 2) (dC (D.int 1))) dNil)) dNil))))))))) (gN 6) B_law_1) (dSeq (dSet 7 (dBin oAdd (dSl (dLst (dCons (dBin oIx (dVar 1) (dC (D.int 2))) (dCons (dBin oIx (dVar 1) (dC (D.int 3))) (dCons (dC (D.int 1)) (dCons (dBin oIx (dVar 1) (dC (D.int 5))) dNil))))) dNoPart (dPart (dBin oIx (dVar 1) (dC (D.int 1))))) (dLst (dCons (dBin oIx (dVar 1) (dC (D.int 6))) dNil)))) (dSeq (dIf (dTest (dBin oEq (dBin oIx (dVar 1) (dC (D.int 1))) (dC (D.int 4)))) (dSet 7 (dLst (dCons (dC (D.int 1)) (dCons (dBin oIx (dVar 1) (dC (D.int 3))) (dCons (dC (D.int 1)) (dCons (dBin oIx (dVar 1) (dC (D.int 4))) (dCons (dBin oIx (dVar 1) (dC (D.int 6))) dNil))))))) dSkip) (dSeq (dSet 8 (dCall (F__law_bent 8) (dCons (dVar 2) (dCons (dVar 7) dNil)))) (dSeq (dSet 9 (dCall G__law_made (dCons (dVar 8) dNil))) (dSeq (dIf (dTru (dCall G__law_is_shape (dCons (dVar 8) dNil))) (dRet (dAndV (dBin oNotN (dVar 9) (dC D.non)) (dAndV (dBin oEq (dBin oIx (dVar 9) (dC (D.int 0))) (dC (D.str "stand"))) (dCall (F__law_same 8) (dCons (dBin oIx (dVar 9) (dC (D.int 1))) (dCons (dVar 8) dNil)))))) dSkip) (dRet (dAndV (dBin oNotN (dVar 9) (dC D.non)) (dAndV (dBin oEq (dBin oIx (dVar 9) (dC (D.int 0))) (dC (D.str "no"))) (dCall (F__law_same 8) (dCons (dBin oIx (dVar 9) (dC (D.int 1))) (dCons (dC (D.str "shape")) dNil)))))))))))))))))))))
theorem ok_law (T : Txt K mg) (h__law_digits : Has P w K mg base 2 "_law_digits" ["_law_cell_here", "_law_sizes"] G__law_digits) (h__law_drawn : Has P w K mg base 4 "_law_drawn" ["_law_script", "_law_at"] G__law_drawn) (h_stand_of : Has P w K mg base 10 "stand_of" ["shape"] G_stand_of) (h__law_bent : Has P w K mg base 10 "_law_bent" ["_law_thing", "_law_digits_here"] (F__law_bent 8)) (h__law_made : Has P w K mg base 11 "_law_made" ["_law_thing"] G__law_made) (h__law_is_shape : Has P w K mg base 6 "_law_is_shape" ["_law_thing"] G__law_is_shape) (h__law_cell : Has P w K mg base 1 "_law_cell" ["_law_script", "_law_k"] G__law_cell) (h__law_turned : Has P w K mg base 3 "_law_turned" ["_law_shape", "_law_cell_here"] G__law_turned) (h__law_same : Has P w K mg base 8 "_law_same" ["_law_got", "_law_due"] (F__law_same 8)) (h_Stand_shape : HasM P w K mg base 1 "Stand" "shape" ["self"] G_Stand_shape) (h__law_stand : Has P w K mg base 9 "_law_stand" ["_law_shape"] G__law_stand) (h_Stand___eq__ : HasM P w K mg base 1 "Stand" "__eq__" ["self", "other"] G_Stand___eq__) {f : Addr} {fd : FuncData} (F : Fun K "law" "law" s_law f fd) : FnOk P w K mg base (L2.CX P w) 12 f fd ["_law_script"] (spD K mg F_law) := by
  refine fn_ok F sc_law (fun cdv A outer s H E hr => ?_)
  have nd := sc_law.nd
  have hp := passes_of (X := cxOf (L2.CX P w) P w K mg base ["_law_script", "_law_head", "_law_shape", "_law_other", "_law_one", "_law_alike", "_law_thing", "_law_path", "_law_bent_here_here", "_law_told"] "law" (defScope s_law) f cdv A outer s H E) (K := fun e s'' => L2.CX P w outer H s E e s'') rfl
  have tk := takes_of (X := cxOf (L2.CX P w) P w K mg base ["_law_script", "_law_head", "_law_shape", "_law_other", "_law_one", "_law_alike", "_law_thing", "_law_path", "_law_bent_here_here", "_law_told"] "law" (defScope s_law) f cdv A outer s H E) (E := E) rfl rfl rfl rfl
  exact (dss_cons (ds_set 1 nd (de_has h__law_digits hr (by decide) tk (da_cons (de_has h__law_cell hr (by decide) tk (da_cons (de_var 0) (da_cons de_int da_nil))) (da_cons (de_lst (da_cons de_int (da_cons de_int (da_cons de_int (da_cons de_int (da_cons de_int (da_cons de_int (da_cons de_int da_nil)))))))) da_nil)))) (dss_cons (ds_set 2 nd (de_has h__law_drawn hr (by decide) tk (da_cons (de_var 0) (da_cons de_int da_nil)))) (dss_cons (ds_set 3 nd (de_has h__law_drawn hr (by decide) tk (da_cons (de_var 0) (da_cons de_int da_nil)))) (dss_cons (ds_if (dt_cmp (op_eqX hr.units) os_eq (de_ix (hu_of hr) (de_var 1) de_int) de_int) (dss_one (ds_set 3 nd (de_has h__law_turned hr (by decide) tk (da_cons (de_var 2) (da_cons (de_has h__law_cell hr (by decide) tk (da_cons (de_var 0) (da_cons de_int da_nil))) da_nil))))) dss_nil) (dss_cons (ds_set 4 nd (de_has h_stand_of hr (by decide) tk (da_cons (de_var 2) da_nil))) (dss_cons (ds_if (dt_not (dt_tru (de_has h__law_same hr (by decide) tk (da_cons (de_meth0 h_Stand_shape hr (by decide) tk (de_var 4)) (da_cons (de_var 2) da_nil))))) (dss_one (ds_ret de_bl)) dss_nil) (dss_cons (ds_if (PW.pt (dw_or (dt_not (dt_tru (de_has h__law_same hr (by decide) tk (da_cons (de_eqZ h_Stand___eq__ hr (by decide) (de_var 4) (de_has h__law_stand hr (by decide) tk (da_cons (de_var 2) da_nil))) (da_cons de_bl da_nil))))) (dw_or1 (dt_not (dt_tru (de_has h__law_same hr (by decide) tk (da_cons (de_eqZ h_Stand___eq__ hr (by decide) (de_has h__law_stand hr (by decide) tk (da_cons (de_var 2) da_nil)) (de_var 4)) (da_cons de_bl da_nil)))))))) (dss_one (ds_ret de_bl)) dss_nil) (dss_cons (ds_set 5 nd (de_cmp (op_eqX hr.units) os_eq (de_var 2) (de_var 3))) (dss_cons (ds_if (PW.pt (dw_or (dt_not (dt_tru (de_has h__law_same hr (by decide) tk (da_cons (de_eqZ h_Stand___eq__ hr (by decide) (de_var 4) (de_has h_stand_of hr (by decide) tk (da_cons (de_var 3) da_nil))) (da_cons (de_var 5) da_nil))))) (dw_or1 (dt_not (dt_tru (de_has h__law_same hr (by decide) tk (da_cons (de_eqZ h_Stand___eq__ hr (by decide) (de_has h_stand_of hr (by decide) tk (da_cons (de_var 3) da_nil)) (de_var 4)) (da_cons (de_var 5) da_nil)))))))) (dss_one (ds_ret de_bl)) dss_nil) (dss_cons (ds_for hp rfl (di_any (de_lst (da_cons (de_var 2) (da_cons de_non (da_cons de_str (da_cons de_int (da_cons (de_lst (da_cons (de_var 4) da_nil)) (da_cons (de_tup (da_cons (de_var 4) da_nil)) (da_cons (de_callTy call_list_of cs_list T.n_list (da_cons (de_ix (hu_of hr) (de_var 2) de_int) da_nil)) da_nil))))))))) (dg_name 6 nd) (dss_one (ds_if (dt_cmp op_notX os_not (de_eqZ h_Stand___eq__ hr (by decide) (de_var 4) (de_var 6)) de_bl) (dss_one (ds_ret de_bl)) dss_nil))) (dss_cons (ds_set 7 nd (de_op op_addX os_add (de_sl (de_lst (da_cons (de_ix (hu_of hr) (de_var 1) de_int) (da_cons (de_ix (hu_of hr) (de_var 1) de_int) (da_cons de_int (da_cons (de_ix (hu_of hr) (de_var 1) de_int) da_nil))))) do_none (do_some (de_ix (hu_of hr) (de_var 1) de_int))) (de_lst (da_cons (de_ix (hu_of hr) (de_var 1) de_int) da_nil)))) (dss_cons (ds_if (dt_cmp (op_eqX hr.units) os_eq (de_ix (hu_of hr) (de_var 1) de_int) de_int) (dss_one (ds_set 7 nd (de_lst (da_cons de_int (da_cons (de_ix (hu_of hr) (de_var 1) de_int) (da_cons de_int (da_cons (de_ix (hu_of hr) (de_var 1) de_int) (da_cons (de_ix (hu_of hr) (de_var 1) de_int) da_nil)))))))) dss_nil) (dss_cons (ds_set 8 nd (de_has h__law_bent hr (by decide) tk (da_cons (de_var 2) (da_cons (de_var 7) da_nil)))) (dss_cons (ds_set 9 nd (de_has h__law_made hr (by decide) tk (da_cons (de_var 8) da_nil))) (dss_cons (ds_if (dt_tru (de_has h__law_is_shape hr (by decide) tk (da_cons (de_var 8) da_nil))) (dss_one (ds_ret (de_and (de_cmp op_notX os_not (de_var 9) de_non) (de_and (de_cmp (op_eqX hr.units) os_eq (de_ix (hu_of hr) (de_var 9) de_int) de_str) (de_one (de_has h__law_same hr (by decide) tk (da_cons (de_ix (hu_of hr) (de_var 9) de_int) (da_cons (de_var 8) da_nil)))))))) dss_nil) (dss_one (ds_ret (de_and (de_cmp op_notX os_not (de_var 9) de_non) (de_and (de_cmp (op_eqX hr.units) os_eq (de_ix (hu_of hr) (de_var 9) de_int) de_str) (de_one (de_has h__law_same hr (by decide) tk (da_cons (de_ix (hu_of hr) (de_var 9) de_int) (da_cons de_str da_nil)))))))))))))))))))))))
theorem sh_T {s : Sh} {np : Nat} (ok : s.ok np) : Tn 4 s.d := by
  have many := ok.many
  have pages := ok.pages
  have t0 : ∀ n x, T0 x → Tn n x := fun n x t => by
    cases n with
    | zero => exact t
    | succ n => exact .inl t
  refine .inr ⟨_, rfl, by simp, by simp, fun d hd => ?_⟩
  have ask : T0 (optD s.asked) := by
    cases s.asked with
    | none => exact .inl rfl
    | some k => exact .inr (.inl ⟨_, rfl⟩)
  simp only [List.mem_cons, List.not_mem_nil, or_false] at hd
  rcases hd with rfl | rfl | rfl | rfl | rfl
  · exact t0 _ _ (.inr (.inl ⟨_, rfl⟩))
  · refine .inr ⟨_, rfl, fun z => ?_, by rw [List.length_map]; omega, fun d hd => ?_⟩
    · have := congrArg List.length z
      rw [List.length_map, List.length_nil] at this
      omega
    · obtain ⟨b, hb, rfl⟩ := List.mem_map.mp hd
      have bok := ok.rows b hb
      refine .inr ⟨_, rfl, by simp, by simp, fun d hd => ?_⟩
      simp only [List.mem_cons, List.not_mem_nil, or_false] at hd
      rcases hd with rfl | rfl
      · refine t0 _ _ ?_
        cases b.left with
        | bad => exact .inl rfl
        | ever => exact .inr (.inr ⟨_, rfl⟩)
        | num n => exact .inr (.inl ⟨_, rfl⟩)
      · refine .inr ⟨_, rfl, fun z => ?_, by rw [List.length_map, bok.len]; omega, fun d hd => ?_⟩
        · have := congrArg List.length z
          rw [List.length_map, List.length_nil, bok.len] at this
          omega
        · obtain ⟨p, hp, rfl⟩ := List.mem_map.mp hd
          cases p with
          | free => exact .inr (.inr ⟨_, rfl⟩)
          | old => exact .inr (.inr ⟨_, rfl⟩)
          | key k => exact .inr (.inl ⟨_, rfl⟩)
  · exact t0 _ _ (.inr (.inl ⟨_, rfl⟩))
  · exact t0 _ _ (.inr (.inl ⟨_, rfl⟩))
  · exact t0 _ _ ask
theorem law_true : ∀ ns : List Int, ns.length ≤ 63 → ∃ dh, F_law [script ns] [] = .ok (.bl true) dh := by
  intro ns hl
  have ca : ∀ (k : Nat), k < 1000 → ∀ h, G__law_cell [script ns, .int (k : Int)] h = .ok (.int (cellNo ns k)) h := fun k hk h => eq__law_cell ns k h hk
  have c0 : ∀ h, G__law_cell [script ns, .int 0] h = .ok (.int (cellNo ns 0)) h := fun h => ca 0 (by decide) h
  have c11 : ∀ h, G__law_cell [script ns, .int 11] h = .ok (.int (cellNo ns 11)) h := fun h => ca 11 (by decide) h
  obtain ⟨A, hA⟩ : ∃ A, A = [D.int 2, .int 5, .int 5, .int 9, .int 9, .int 9, .int 16] := ⟨_, rfl⟩
  have dg := eq__law_digits (cellNo ns 0) 0 [2, 5, 5, 9, 9, 9, 16] [.lst ([2, 5, 5, 9, 9, 9, 16].map D.int)] rfl (fun s hs => okS (by simp at hs; omega) (by simp at hs; omega)) (by decide)
  have bl := digits_below (cellNo ns 0) [2, 5, 5, 9, 9, 9, 16] (by decide)
  generalize digits (cellNo ns 0) [2, 5, 5, 9, 9, 9, 16] = dl at bl dg
  cases bl with
  | @cons a0 _ _ _ b0 bl =>
  cases bl with
  | @cons a1 _ _ _ b1 bl =>
  cases bl with
  | @cons a2 _ _ _ b2 bl =>
  cases bl with
  | @cons a3 _ _ _ b3 bl =>
  cases bl with
  | @cons a4 _ _ _ b4 bl =>
  cases bl with
  | @cons a5 _ _ _ b5 bl =>
  cases bl with
  | @cons a6 _ _ _ b6 bl =>
  cases bl
  have Al : A.length = 7 := by rw [hA]; rfl
  obtain ⟨H0, hH0⟩ : ∃ H0, H0 = [Cell.lst A, .lst [.int a0, .int a1, .int a2, .int a3, .int a4, .int a5, .int a6]] := ⟨_, rfl⟩
  have dg' : G__law_digits [.int (cellNo ns 0), .ref 0] [.lst A] = .ok (.ref 1) H0 := by rw [hH0, hA]; exact dg
  have h01 : H0[1]? = some (.lst [.int a0, .int a1, .int a2, .int a3, .int a4, .int a5, .int a6]) := by rw [hH0]; rfl
  have ixs : ∀ (j : Nat) (d : D), [D.int a0, .int a1, .int a2, .int a3, .int a4, .int a5, .int a6][j]? = some d → ∀ g, oIx (.ref 1) (.int (j : Int)) (H0 ++ g) = .ok d (H0 ++ g) := fun j d e g => by
    rw [oIx_at (at_old h01), atI_n e]; rfl
  have ixs0 : oIx (.ref 1) (.int 0) H0 = .ok (.int a0) H0 := by have := ixs 0 _ rfl []; rwa [List.append_nil] at this
  obtain ⟨s, np, ok, e2⟩ := eq__law_drawn ns 1 H0 (by decide)
  have e2 : G__law_drawn [script ns, .int 1] H0 = .ok s.d H0 := e2
  obtain ⟨t0, mp, ok0, e3⟩ := eq__law_drawn ns 11 H0 (by decide)
  have e3 : G__law_drawn [script ns, .int 11] H0 = .ok t0.d H0 := e3
  -- the other shape
  obtain ⟨t1, ok1, e4⟩ := eq__law_turned ok (cellNo ns 11) H0
  obtain ⟨t, nq, okt, hif⟩ : ∃ (t : Sh) (nq : Nat), t.ok nq ∧ (dIf (dTest (dBin oEq (dBin oIx (dVar 1) (dC (D.int 0))) (dC (D.int 0)))) (dSet 3 (dCall G__law_turned (dCons (dVar 2) (dCons (dCall G__law_cell (dCons (dVar 0) (dCons (dC (D.int 11)) dNil))) dNil)))) dSkip) [some (script ns), some (.ref 1), some s.d, some t0.d, none, none, none, none, none, none] H0 = .nx [some (script ns), some (.ref 1), some s.d, some t.d, none, none, none, none, none, none] H0 := by
    by_cases z : a0 = 0
    · refine ⟨t1, np, ok1, ?_⟩
      subst z
      generalize s.d = sd at *
      generalize t1.d = td at *
      generalize t0.d = td0 at *
      simp -implicitDefEqProofs [ixs0, c11, e4]
    · refine ⟨t0, mp, ok0, ?_⟩
      generalize s.d = sd at *
      generalize t0.d = td0 at *
      simp -implicitDefEqProofs [ixs0, z]
  -- the stand
  have e5 := eq_stand_of ok H0
  obtain ⟨N, hN⟩ : ∃ N, N = H0.length := ⟨_, rfl⟩
  rw [← hN] at e5
  obtain ⟨H1, hH1⟩ : ∃ H1, H1 = H0 ++ [stObj s] := ⟨_, rfl⟩
  rw [← hH1] at e5
  have n1 : H1[N]? = some (stObj s) := by rw [hH1, hN]; exact at_new
  have ob := obj_m n1 (m := "shape") (by decide +kernel)
  have e6 := eq_shape n1
  have sm1 := eq__law_same H1 8 s.d s.d (Sh.same ok)
  have e7 := eq__law_stand ok H1
  obtain ⟨H2, hH2⟩ : ∃ H2, H2 = H1 ++ [stObj s] := ⟨_, rfl⟩
  rw [← hH2] at e7
  have n2 : H2[N]? = some (stObj s) := by rw [hH2]; exact at_old n1
  obtain ⟨bt, hbt, ebt⟩ := sh_eq s s
  have btt : bt = true := hbt.mpr rfl
  subst btt
  have e8 := eqz_eq n2 (show H2[H1.length]? = some (stObj s) by rw [hH2]; exact at_new) ebt
  have smT : ∀ (H : DH) (b : Bool), F__law_same 8 [.bl b, .bl b] H = .ok (.bl true) H := fun H b => eq__law_same H 8 (.bl b) (.bl b) (same_flat rfl)
  have e9 := eq__law_stand ok H2
  obtain ⟨H3, hH3⟩ : ∃ H3, H3 = H2 ++ [stObj s] := ⟨_, rfl⟩
  rw [← hH3] at e9
  have n3 : H3[N]? = some (stObj s) := by rw [hH3]; exact at_old n2
  have e10 := eqz_eq (show H3[H2.length]? = some (stObj s) by rw [hH3]; exact at_new) n3 ebt
  obtain ⟨b, hb, eb⟩ := sh_eq s t
  obtain ⟨b', hb', eb'⟩ := sh_eq t s
  have bb : b' = b := by rw [Bool.eq_iff_iff, hb, hb']; exact eq_comm
  subst bb
  have e11 := eq_stand_of okt H3
  obtain ⟨H4, hH4⟩ : ∃ H4, H4 = H3 ++ [stObj t] := ⟨_, rfl⟩
  rw [← hH4] at e11
  have n4 : H4[N]? = some (stObj s) := by rw [hH4]; exact at_old n3
  have e12 := eqz_eq n4 (show H4[H3.length]? = some (stObj t) by rw [hH4]; exact at_new) eb
  have e13 := eq_stand_of okt H4
  obtain ⟨H5, hH5⟩ : ∃ H5, H5 = H4 ++ [stObj t] := ⟨_, rfl⟩
  rw [← hH5] at e13
  have n5 : H5[N]? = some (stObj s) := by rw [hH5]; exact at_old n4
  have e14 := eqz_eq (show H5[H4.length]? = some (stObj t) by rw [hH5]; exact at_new) n5 eb'
  -- other values
  obtain ⟨R, hR⟩ : ∃ R, R = s.rows.map Bk.d := ⟨_, rfl⟩
  have rdE : s.rd = .tup R := by rw [hR]; rfl
  obtain ⟨H6, hH6⟩ : ∃ H6, H6 = H5 ++ [Cell.lst [.ref N], .lst R, .lst [s.d, .non, .str "", .int 0, .ref H5.length, .tup [.ref N], .ref (H5.length + 1)]] := ⟨_, rfl⟩
  have n6 : H6[N]? = some (stObj s) := by rw [hH6]; exact at_old n5
  have l6 : H6[H5.length + 2]? = some (.lst [s.d, .non, .str "", .int 0, .ref H5.length, .tup [.ref N], .ref (H5.length + 1)]) := by rw [hH6, hp_k]; rfl
  have p6 : H6[H5.length]? = some (.lst [.ref N]) := by rw [hH6]; exact hp_0
  have q6 : H6[H5.length + 1]? = some (.lst R) := by rw [hH6, hp_k]; rfl
  have it6 : iterS (.ref (H5.length + 2)) H6 = .ok ⟨[s.d, .non, .str "", .int 0, .ref H5.length, .tup [.ref N], .ref (H5.length + 1)], fun h' => h'[H5.length + 2]? = some (.lst [s.d, .non, .str "", .int 0, .ref H5.length, .tup [.ref N], .ref (H5.length + 1)])⟩ H6 := iterS_ref l6
  obtain ⟨a', lp⟩ := for_ix (α := Option D) (keep := fun h' => h'[H5.length + 2]? = some (.lst [s.d, .non, .str "", .int 0, .ref H5.length, .tup [.ref N], .ref (H5.length + 1)])) (gg := gN 6) (b := B_law_1) (ds := [s.d, .non, .str "", .int 0, .ref H5.length, .tup [.ref N], .ref (H5.length + 1)]) (fun i o => [some (script ns), some (.ref 1), some s.d, some t.d, some (.ref N), some (.bl b'), o, none, none, none]) (fun i => H6) (fun _ _ => l6) (fun i d o hd => by
    have ty : isTy "Stand" d H6 = some false := by
      match i, hd with
      | 0, hd => cases hd; rfl
      | 1, hd => cases hd; rfl
      | 2, hd => cases hd; rfl
      | 3, hd => cases hd; rfl
      | 4, hd => cases hd; simp [isTy, tyD, p6]
      | 5, hd => cases hd; rfl
      | 6, hd => cases hd; simp [isTy, tyD, q6]
    have en := eqz_no n6 ty
    have nf : oNotN (.bl false) (.bl false) H6 = .ok (.bl false) H6 := rfl
    refine ⟨_, rfl, some d, .inl ?_⟩
    generalize s.d = sd at *
    generalize t.d = td at *
    simp -implicitDefEqProofs [B_law_1, en, nf]) none
  have six : (List.length [s.d, .non, .str "", .int 0, .ref H5.length, .tup [.ref N], .ref (H5.length + 1)]) = 7 := rfl
  have ixg : ∀ (j : Nat) (d : D), [D.int a0, .int a1, .int a2, .int a3, .int a4, .int a5, .int a6][j]? = some d → ∀ g, oIx (.ref 1) (.int (j : Int)) (H6 ++ g) = .ok d (H6 ++ g) := fun j d e g => by
    have : H6 ++ g = H0 ++ ([stObj s] ++ [stObj s] ++ [stObj s] ++ [stObj t] ++ [stObj t] ++ [Cell.lst [.ref N], .lst R, .lst [s.d, .non, .str "", .int 0, .ref H5.length, .tup [.ref N], .ref (H5.length + 1)]] ++ g) := by rw [hH6, hH5, hH4, hH3, hH2, hH1]; simp
    rw [this]
    exact ixs j d e _
  have i1 : ∀ g, oIx (.ref 1) (.int 1) (H6 ++ g) = .ok (.int a1) (H6 ++ g) := ixg 1 _ rfl
  have i2 : ∀ g, oIx (.ref 1) (.int 2) (H6 ++ g) = .ok (.int a2) (H6 ++ g) := ixg 2 _ rfl
  have i3 : ∀ g, oIx (.ref 1) (.int 3) (H6 ++ g) = .ok (.int a3) (H6 ++ g) := ixg 3 _ rfl
  have i4 : ∀ g, oIx (.ref 1) (.int 4) (H6 ++ g) = .ok (.int a4) (H6 ++ g) := ixg 4 _ rfl
  have i5 : ∀ g, oIx (.ref 1) (.int 5) (H6 ++ g) = .ok (.int a5) (H6 ++ g) := ixg 5 _ rfl
  have i6 : ∀ g, oIx (.ref 1) (.int 6) (H6 ++ g) = .ok (.int a6) (H6 ++ g) := ixg 6 _ rfl
  have i20 := i2 []
  have i30 := i3 []
  have i50 := i5 []
  have i40 := i4 []
  have i60 := i6 []
  rw [List.append_nil] at i20 i30 i50 i40 i60
  obtain ⟨q, rfl⟩ : ∃ q : Nat, a1 = (q : Int) := ⟨a1.toNat, by omega⟩
  -- the path
  obtain ⟨ds, g, m, d1, d2, hm, path⟩ : ∃ (ds : List Int) (g : DH) (m : Nat), 1 ≤ ds.length ∧ ds.length ≤ 5 ∧ (H6 ++ g)[m]? = some (.lst (ds.map D.int)) ∧ ∀ K : FS, (dSeq (dSet 7 (dBin oAdd (dSl (dLst (dCons (dBin oIx (dVar 1) (dC (D.int 2))) (dCons (dBin oIx (dVar 1) (dC (D.int 3))) (dCons (dC (D.int 1)) (dCons (dBin oIx (dVar 1) (dC (D.int 5))) dNil))))) dNoPart (dPart (dBin oIx (dVar 1) (dC (D.int 1))))) (dLst (dCons (dBin oIx (dVar 1) (dC (D.int 6))) dNil)))) (dSeq (dIf (dTest (dBin oEq (dBin oIx (dVar 1) (dC (D.int 1))) (dC (D.int 4)))) (dSet 7 (dLst (dCons (dC (D.int 1)) (dCons (dBin oIx (dVar 1) (dC (D.int 3))) (dCons (dC (D.int 1)) (dCons (dBin oIx (dVar 1) (dC (D.int 4))) (dCons (dBin oIx (dVar 1) (dC (D.int 6))) dNil))))))) dSkip) K)) [some (script ns), some (.ref 1), some s.d, some t.d, some (.ref N), some (.bl b'), a', none, none, none] H6 = K [some (script ns), some (.ref 1), some s.d, some t.d, some (.ref N), some (.bl b'), a', some (.ref m), none, none] (H6 ++ g) := by
    obtain ⟨L4, hL4⟩ : ∃ L4 : List Int, L4 = [a2, a3, 1, a5] := ⟨_, rfl⟩
    have l4 : [D.int a2, .int a3, .int 1, .int a5] = L4.map D.int := by rw [hL4]; rfl
    have ct : DL.cutD (L4.map D.int) none (some (q : Int)) = (L4.take q).map D.int := by rw [cut_to, List.map_take]
    have sl : oSl (.ref H6.length) none (some (q : Int)) (H6 ++ [.lst (L4.map D.int)]) = .ok (.ref (H6.length + 1)) (H6 ++ [.lst (L4.map D.int), .lst ((L4.take q).map D.int)]) := by
      rw [oSl_lst at_new, ct]; simp
    have ad := oAdd_lst (h := H6 ++ [.lst (L4.map D.int), .lst ((L4.take q).map D.int), .lst [.int a6]]) (m := H6.length + 1) (n := H6.length + 2) (p := (L4.take q).map D.int) (q := [.int a6]) (by rw [hp_k]; rfl) (by rw [hp_k]; rfl) (by rw [List.length_map, List.length_take]; simp; omega)
    have ad' : oAdd (.ref (H6.length + 1)) (.ref (H6.length + 2)) (H6 ++ [.lst (L4.map D.int), .lst ((L4.take q).map D.int), .lst [.int a6]]) = .ok (.ref (H6.length + 3)) (H6 ++ [.lst (L4.map D.int), .lst ((L4.take q).map D.int), .lst [.int a6], .lst ((L4.take q ++ [a6]).map D.int)]) := by
      rw [ad]; simp
    have i1q : ∀ g, oIx (.ref 1) (.int 1) (H6 ++ g) = .ok (.int (q : Int)) (H6 ++ g) := i1
    have L4l : L4.length = 4 := by rw [hL4]; rfl
    have LL : (L4.map D.int).length ≤ 16777216 := by rw [List.length_map, L4l]; omega
    by_cases z : q = 4
    · refine ⟨[1, a3, 1, a4, a6], [.lst (L4.map D.int), .lst ((L4.take q).map D.int), .lst [.int a6], .lst ((L4.take q ++ [a6]).map D.int), .lst [.int 1, .int a3, .int 1, .int a4, .int a6]], H6.length + 4, by simp, by simp, by rw [hp_k]; rfl, fun K => ?_⟩
      have z' : (q : Int) = 4 := by omega
      rw [z'] at sl
      have i1q : ∀ g, oIx (.ref 1) (.int 1) (H6 ++ g) = .ok (.int 4) (H6 ++ g) := fun g => by rw [i1q, z']
      clear hL4
      generalize L4.map D.int = LD at *
      generalize (L4.take q).map D.int = LT at *
      generalize (L4.take q ++ [a6]).map D.int = LA at *
      generalize s.d = sd at *
      generalize t.d = td at *
      simp -implicitDefEqProofs [i20, i30, i50, l4, LL, i1q, sl, i6, i3, i4, ad']
    · refine ⟨L4.take q ++ [a6], [.lst (L4.map D.int), .lst ((L4.take q).map D.int), .lst [.int a6], .lst ((L4.take q ++ [a6]).map D.int)], H6.length + 3, by simp, by rw [List.length_append, List.length_take]; simp; omega, by rw [hp_k]; rfl, fun K => ?_⟩
      have z' : ¬ (q : Int) = 4 := by omega
      clear hL4
      generalize L4.map D.int = LD at *
      generalize (L4.take q).map D.int = LT at *
      generalize (L4.take q ++ [a6]).map D.int = LA at *
      generalize s.d = sd at *
      generalize t.d = td at *
      simp -implicitDefEqProofs [i20, i30, i50, l4, LL, i1q, sl, i6, ad', z, z']
  obtain ⟨y, g2, e15, oy⟩ := bent_ok 8 4 s.d ds (H6 ++ g) m (sh_T ok) hm d1 (by omega)
  obtain ⟨H8, hH8⟩ : ∃ H8, H8 = H6 ++ g ++ g2 := ⟨_, rfl⟩
  rw [← hH8] at e15 oy
  have e16 := any__law_is_shape oy
  -- the end
  have fin : ∃ K : FS, K = (dSeq (dSet 8 (dCall (F__law_bent 8) (dCons (dVar 2) (dCons (dVar 7) dNil)))) (dSeq (dSet 9 (dCall G__law_made (dCons (dVar 8) dNil))) (dSeq (dIf (dTru (dCall G__law_is_shape (dCons (dVar 8) dNil))) (dRet (dAndV (dBin oNotN (dVar 9) (dC D.non)) (dAndV (dBin oEq (dBin oIx (dVar 9) (dC (D.int 0))) (dC (D.str "stand"))) (dCall (F__law_same 8) (dCons (dBin oIx (dVar 9) (dC (D.int 1))) (dCons (dVar 8) dNil)))))) dSkip) (dRet (dAndV (dBin oNotN (dVar 9) (dC D.non)) (dAndV (dBin oEq (dBin oIx (dVar 9) (dC (D.int 0))) (dC (D.str "no"))) (dCall (F__law_same 8) (dCons (dBin oIx (dVar 9) (dC (D.int 1))) (dCons (dC (D.str "shape")) dNil))))))))) ∧ ∃ H9, K [some (script ns), some (.ref 1), some s.d, some t.d, some (.ref N), some (.bl b'), a', some (.ref m), none, none] (H6 ++ g) = .rt (.bl true) H9 := by
    refine ⟨_, rfl, ?_⟩
    by_cases sp : ShP y
    · rw [cB_of sp] at e16
      obtain ⟨u, nu, oku, rfl⟩ := sp
      have e17 := made_yes oku H8
      have sm := eq__law_same H8 8 u.d u.d (Sh.same oku)
      refine ⟨H8, ?_⟩
      generalize u.d = ud at *
      generalize s.d = sd at *
      generalize t.d = td at *
      generalize H6 ++ g = H7 at *
      simp -implicitDefEqProofs [e15, e17, e16, oIx_tupX, atI_0, atI_1, sm]
    · rw [cB_not sp] at e16
      have e17 := made_no oy sp
      have sm := eq__law_same H8 8 (.str "shape") (.str "shape") (same_flat rfl)
      refine ⟨H8, ?_⟩
      generalize s.d = sd at *
      generalize t.d = td at *
      generalize H6 ++ g = H7 at *
      simp -implicitDefEqProofs [e15, e17, e16, oIx_tupX, atI_0, atI_1, sm]
  obtain ⟨K, hK, H9, fin⟩ := fin
  refine ⟨H9, ?_⟩
  have F0 : ∀ K : FS, dDef 1 10 K [script ns] [] = (K [some (script ns), none, none, none, none, none, none, none, none, none] []).fin := fun K => rfl
  have path := path K
  unfold F_law
  rw [F0, ← hK]
  obtain ⟨PT, hPT⟩ : ∃ PT : FS, PT = (dSeq (dSet 7 (dBin oAdd (dSl (dLst (dCons (dBin oIx (dVar 1) (dC (D.int 2))) (dCons (dBin oIx (dVar 1) (dC (D.int 3))) (dCons (dC (D.int 1)) (dCons (dBin oIx (dVar 1) (dC (D.int 5))) dNil))))) dNoPart (dPart (dBin oIx (dVar 1) (dC (D.int 1))))) (dLst (dCons (dBin oIx (dVar 1) (dC (D.int 6))) dNil)))) (dSeq (dIf (dTest (dBin oEq (dBin oIx (dVar 1) (dC (D.int 1))) (dC (D.int 4)))) (dSet 7 (dLst (dCons (dC (D.int 1)) (dCons (dBin oIx (dVar 1) (dC (D.int 3))) (dCons (dC (D.int 1)) (dCons (dBin oIx (dVar 1) (dC (D.int 4))) (dCons (dBin oIx (dVar 1) (dC (D.int 6))) dNil))))))) dSkip) K)) := ⟨_, rfl⟩
  rw [← hPT] at path ⊢
  obtain ⟨IF, hIF⟩ : ∃ IF : FS, IF = (dIf (dTest (dBin oEq (dBin oIx (dVar 1) (dC (D.int 0))) (dC (D.int 0)))) (dSet 3 (dCall G__law_turned (dCons (dVar 2) (dCons (dCall G__law_cell (dCons (dVar 0) (dCons (dC (D.int 11)) dNil))) dNil)))) dSkip) := ⟨_, rfl⟩
  rw [← hIF] at hif ⊢
  have H6e : H5 ++ [Cell.lst [.ref N], .lst R, .lst [s.d, .non, .str "", .int 0, .ref H5.length, .tup [.ref N], .ref (H5.length + 1)]] = H6 := hH6.symm
  have eb0 := eb H3
  have s1 : ∀ H, oIx s.d (.int 1) H = .ok (.tup R) H := fun H => by rw [sh_1, rdE]
  clear hH0 hH1 hH2 hH3 hH4 hH5 hH6 hH8 hPT hIF hK hb hb' hbt eb eb' ebt
  generalize s.d = sd at *
  generalize t0.d = td0 at *
  generalize t.d = td at *
  simp -implicitDefEqProofs [c0, ← hA, Al, dg', e2, e3, hif, e5, ob, e6, sm1, e7, e8, smT, e9, e10, eb0, e11, e12, e13, e14, s1, bList_tup, H6e, it6, lp, path, fin]

/-! ### the end -/
theorem law_fn (A : All K mg) {f : Addr} {fd : FuncData} (F : Fun K "law" "law" s_law f fd) : FnOk P w K mg base (L2.CX P w) 12 f fd ["_law_script"] (spLaw K) := (ok_law A.T (has__law_digits A) (has__law_drawn A) (has_stand_of A) (has__law_bent A) (has__law_made A) (has__law_is_shape A) (has__law_cell A) (has__law_turned A) (has__law_same A) (has_Stand_shape A) (has__law_stand A) (has_Stand___eq__ A) F).imp (law_imp law_true)
theorem all_mk {K : PySem.W.Frag} {mg : Str → Option Value} {h : Heap} {fa : Addr} (X : K.In h) (G : h.Ns mainGlobals mg) (hfa : mg "law" = some (.ref fa))
    {C_NoStand : Addr}
    {C_SpentError : Addr}
    {C_Stand : Addr}
    {fI_NoStand N_NoStand : Addr} {nm_NoStand q_NoStand : Str} {bs_NoStand bm_NoStand : List Value} {sn_NoStand : List Str} {sb_NoStand : List Value} {ab_NoStand : Bool} {co_NoStand : Option Bool} {dd_NoStand : Option Addr} {k0_NoStand k1_NoStand k2_NoStand k3_NoStand k5_NoStand : Option Value}
    {oE0 aE0 : Option Addr} {sE0 : Array (Option Value)} {cE0 vE0 dE0 pE0 dcE0 tE0 : Value}
    {f0 : Addr} {od0 an0 : Option Addr} {sl0 : Array (Option Value)} {oc0 kV0 dc0 pm0 cd0 ct0 : Value}
    {f1 : Addr} {od1 an1 : Option Addr} {sl1 : Array (Option Value)} {oc1 kV1 dc1 pm1 cd1 ct1 : Value}
    {f2 : Addr} {od2 an2 : Option Addr} {sl2 : Array (Option Value)} {oc2 kV2 dc2 pm2 cd2 ct2 : Value}
    {f3 : Addr} {od3 an3 : Option Addr} {sl3 : Array (Option Value)} {oc3 kV3 dc3 pm3 cd3 ct3 : Value}
    {f4 : Addr} {od4 an4 : Option Addr} {sl4 : Array (Option Value)} {oc4 kV4 dc4 pm4 cd4 ct4 : Value}
    {f5 : Addr} {od5 an5 : Option Addr} {sl5 : Array (Option Value)} {oc5 kV5 dc5 pm5 cd5 ct5 : Value}
    {f6 : Addr} {od6 an6 : Option Addr} {sl6 : Array (Option Value)} {oc6 kV6 dc6 pm6 cd6 ct6 : Value}
    {f7 : Addr} {od7 an7 : Option Addr} {sl7 : Array (Option Value)} {oc7 kV7 dc7 pm7 cd7 ct7 : Value}
    {f8 : Addr} {od8 an8 : Option Addr} {sl8 : Array (Option Value)} {oc8 kV8 dc8 pm8 cd8 ct8 : Value}
    {f9 : Addr} {od9 an9 : Option Addr} {sl9 : Array (Option Value)} {oc9 dc9 pm9 cd9 ct9 : Value}
    {kD9 : Addr}
    {f10 : Addr} {od10 an10 : Option Addr} {sl10 : Array (Option Value)} {oc10 kV10 dc10 pm10 cd10 ct10 : Value}
    {f11 : Addr} {od11 an11 : Option Addr} {sl11 : Array (Option Value)} {oc11 kV11 dc11 pm11 cd11 ct11 : Value}
    {f12 : Addr} {od12 an12 : Option Addr} {sl12 : Array (Option Value)} {oc12 kV12 dc12 pm12 cd12 ct12 : Value}
    {f13 : Addr} {od13 an13 : Option Addr} {sl13 : Array (Option Value)} {oc13 kV13 dc13 pm13 cd13 ct13 : Value}
    {f14 : Addr} {od14 an14 : Option Addr} {sl14 : Array (Option Value)} {oc14 kV14 dc14 pm14 cd14 ct14 : Value}
    {f15 : Addr} {od15 an15 : Option Addr} {sl15 : Array (Option Value)} {oc15 kV15 dc15 pm15 cd15 ct15 : Value}
    {f16 : Addr} {od16 an16 : Option Addr} {sl16 : Array (Option Value)} {oc16 kV16 dc16 pm16 cd16 ct16 : Value}
    {f17 : Addr} {od17 an17 : Option Addr} {sl17 : Array (Option Value)} {oc17 kV17 dc17 pm17 cd17 ct17 : Value}
    {f18 : Addr} {od18 an18 : Option Addr} {sl18 : Array (Option Value)} {oc18 kV18 dc18 pm18 cd18 ct18 : Value}
    {f19 : Addr} {od19 an19 : Option Addr} {sl19 : Array (Option Value)} {oc19 kV19 dc19 pm19 cd19 ct19 : Value}
    {f20 : Addr} {od20 an20 : Option Addr} {sl20 : Array (Option Value)} {oc20 kV20 dc20 pm20 cd20 ct20 : Value}
    {f21 : Addr} {od21 an21 : Option Addr} {sl21 : Array (Option Value)} {oc21 kV21 dc21 pm21 cd21 ct21 : Value}
    {f22 : Addr} {od22 an22 : Option Addr} {sl22 : Array (Option Value)} {oc22 kV22 dc22 pm22 cd22 ct22 : Value}
    {f23 : Addr} {od23 an23 : Option Addr} {sl23 : Array (Option Value)} {oc23 kV23 dc23 pm23 cd23 ct23 : Value}
    {f24 : Addr} {od24 an24 : Option Addr} {sl24 : Array (Option Value)} {oc24 kV24 dc24 pm24 cd24 ct24 : Value}
    {f25 : Addr} {od25 an25 : Option Addr} {sl25 : Array (Option Value)} {oc25 kV25 dc25 pm25 cd25 ct25 : Value}
    {f26 : Addr} {od26 an26 : Option Addr} {sl26 : Array (Option Value)} {oc26 kV26 dc26 pm26 cd26 ct26 : Value}
    {f27 : Addr} {od27 an27 : Option Addr} {sl27 : Array (Option Value)} {oc27 kV27 dc27 pm27 cd27 ct27 : Value}
    {f28 : Addr} {od28 an28 : Option Addr} {sl28 : Array (Option Value)} {oc28 kV28 dc28 pm28 cd28 ct28 : Value}
    {f29 : Addr} {od29 an29 : Option Addr} {sl29 : Array (Option Value)} {oc29 kV29 dc29 pm29 cd29 ct29 : Value}
    {f30 : Addr} {od30 an30 : Option Addr} {sl30 : Array (Option Value)} {oc30 kV30 dc30 pm30 cd30 ct30 : Value}
    {f31 : Addr} {od31 an31 : Option Addr} {sl31 : Array (Option Value)} {oc31 kV31 dc31 pm31 cd31 ct31 : Value}
    {f32 : Addr} {od32 an32 : Option Addr} {sl32 : Array (Option Value)} {oc32 kV32 dc32 pm32 cd32 ct32 : Value}
    {f33 : Addr} {od33 an33 : Option Addr} {sl33 : Array (Option Value)} {oc33 kV33 dc33 pm33 cd33 ct33 : Value}
    {f34 : Addr} {od34 an34 : Option Addr} {sl34 : Array (Option Value)} {oc34 kV34 dc34 pm34 cd34 ct34 : Value}
    {f35 : Addr} {od35 an35 : Option Addr} {sl35 : Array (Option Value)} {oc35 kV35 dc35 pm35 cd35 ct35 : Value}
    {t_MOST_COUNT : Tok}
    {t_MOST_LEFT : Tok}
    {t_MOST_PAGES : Tok}
    (aC_NoStand : PySem.W.nsIn K mainGlobals "NoStand" = some (some (.ref C_NoStand)))
    (aC_SpentError : PySem.W.nsIn K mainGlobals "SpentError" = some (some (.ref C_SpentError)))
    (aC_Stand : PySem.W.nsIn K mainGlobals "Stand" = some (some (.ref C_Stand)))
    (pg_Stand : PySem.W.plainGet K C_Stand Str.empty = true) (hd_Stand : PySem.W.hasDictIn K C_Stand = true) (po_Stand : PySem.W.plainOver K C_Stand = true) (sa_Stand : PySem.W.findIn K (.ref C_Stand) "__setattr__" = some (some (.builtin "object.__setattr__"))) (mk_Stand : PySem.W.makesIn K C_Stand = true) (kc_Stand : PySem.W.keepIn K (.ref C_Stand) = true)
    (nA_Stand_form : PySem.W.findIn K (.ref C_Stand) "form" = some none)
    (bF_NoStand : PySem.W.subIn K (.ref C_NoStand) (.type "BaseException") = some true) (tF_NoStand : PySem.W.typeIn K (.ref C_NoStand) = some (.type "type")) (iF_NoStand : PySem.W.isClsIn K C_NoStand = true)
    (lk_NoStand : K.lookup C_NoStand = some (excClassObj nm_NoStand q_NoStand C_NoStand N_NoStand bs_NoStand bm_NoStand true sn_NoStand sb_NoStand ab_NoStand co_NoStand dd_NoStand k0_NoStand k1_NoStand k2_NoStand k3_NoStand k5_NoStand "ValueError.__new__"))
    (rv_NoStand : PySem.HandSPX.refsVE bm_NoStand = true)
    (sa_NoStand : PySem.W.findIn K (.ref C_NoStand) "__setattr__" = some (some (.builtin "object.__setattr__")))
    (kF_NoStand : PySem.W.keepIn K (.ref C_NoStand) = true)
    (nf_NoStand_part : PySem.W.findIn K (.ref C_NoStand) "part" = some none)
    (in_NoStand : PySem.W.findIn K (.ref C_NoStand) "__init__" = some (some (.ref fI_NoStand)))
    (ty_NoStand : PySem.W.typeIn K (.ref fI_NoStand) = some (.type "function"))
    (lE0 : K.lookup fI_NoStand = some ⟨cE0, oE0, .func (PySem.W.fnOf "__init__" "NoStand.__init__" (defArgs s_NoStand) (defBody s_NoStand) (defScope s_NoStand) .none vE0 dE0 pE0 aE0 dcE0 tE0), sE0⟩)
    (ccE0 : PySem.W.codeIn K dcE0 "NoStand.__init__" = true)
    (kkE0 : PySem.W.keepIn K (.ref fI_NoStand) = true)
    (rd_SpentError : PySem.W.readsIn K C_SpentError (.type "type") = true)
    (gs_SpentError : PySem.W.specialIn K (.ref C_SpentError) "__getattribute__" = some (some (.builtin "type.__getattribute__")))
    (ci_SpentError : PySem.W.findCls K (.ref C_SpentError) (.type "type") "__init__" = some (.val (.builtin "ValueError.__init__")))
    (ga_NoStand : PySem.W.findIn K (.ref C_NoStand) "__getattribute__" = some (some (.builtin "BaseException.__getattribute__")))
    (gg_NoStand : PySem.W.findIn K (.ref C_NoStand) "__getattr__" = some none)
    (hd_NoStand : PySem.W.hasDictIn K C_NoStand = true)
    (sF_NoStand_NoStand : PySem.W.subIn K (.ref C_NoStand) (.ref C_NoStand) = some true)
    (a0 : PySem.W.nsIn K mainGlobals "is_integer" = some (some (.ref f0))) (l0 : K.lookup f0 = some ⟨oc0, od0, .func (PySem.W.fnOf "is_integer" "is_integer" (defArgs s_is_integer) (defBody s_is_integer) (defScope s_is_integer) .none kV0 dc0 pm0 an0 cd0 ct0), sl0⟩) (c0 : PySem.W.codeIn K cd0 "is_integer" = true) (k0 : PySem.W.keepIn K (.ref f0) = true)
    (a1 : PySem.W.nsIn K mainGlobals "in_range" = some (some (.ref f1))) (l1 : K.lookup f1 = some ⟨oc1, od1, .func (PySem.W.fnOf "in_range" "in_range" (defArgs s_in_range) (defBody s_in_range) (defScope s_in_range) .none kV1 dc1 pm1 an1 cd1 ct1), sl1⟩) (c1 : PySem.W.codeIn K cd1 "in_range" = true) (k1 : PySem.W.keepIn K (.ref f1) = true)
    (a2 : PySem.W.nsIn K mainGlobals "is_left" = some (some (.ref f2))) (l2 : K.lookup f2 = some ⟨oc2, od2, .func (PySem.W.fnOf "is_left" "is_left" (defArgs s_is_left) (defBody s_is_left) (defScope s_is_left) .none kV2 dc2 pm2 an2 cd2 ct2), sl2⟩) (c2 : PySem.W.codeIn K cd2 "is_left" = true) (k2 : PySem.W.keepIn K (.ref f2) = true)
    (a3 : PySem.W.nsIn K mainGlobals "is_page" = some (some (.ref f3))) (l3 : K.lookup f3 = some ⟨oc3, od3, .func (PySem.W.fnOf "is_page" "is_page" (defArgs s_is_page) (defBody s_is_page) (defScope s_is_page) .none kV3 dc3 pm3 an3 cd3 ct3), sl3⟩) (c3 : PySem.W.codeIn K cd3 "is_page" = true) (k3 : PySem.W.keepIn K (.ref f3) = true)
    (a4 : PySem.W.nsIn K mainGlobals "are_pages" = some (some (.ref f4))) (l4 : K.lookup f4 = some ⟨oc4, od4, .func (PySem.W.fnOf "are_pages" "are_pages" (defArgs s_are_pages) (defBody s_are_pages) (defScope s_are_pages) .none kV4 dc4 pm4 an4 cd4 ct4), sl4⟩) (c4 : PySem.W.codeIn K cd4 "are_pages" = true) (k4 : PySem.W.keepIn K (.ref f4) = true)
    (a5 : PySem.W.nsIn K mainGlobals "is_block" = some (some (.ref f5))) (l5 : K.lookup f5 = some ⟨oc5, od5, .func (PySem.W.fnOf "is_block" "is_block" (defArgs s_is_block) (defBody s_is_block) (defScope s_is_block) .none kV5 dc5 pm5 an5 cd5 ct5), sl5⟩) (c5 : PySem.W.codeIn K cd5 "is_block" = true) (k5 : PySem.W.keepIn K (.ref f5) = true)
    (a6 : PySem.W.nsIn K mainGlobals "are_blocks" = some (some (.ref f6))) (l6 : K.lookup f6 = some ⟨oc6, od6, .func (PySem.W.fnOf "are_blocks" "are_blocks" (defArgs s_are_blocks) (defBody s_are_blocks) (defScope s_are_blocks) .none kV6 dc6 pm6 an6 cd6 ct6), sl6⟩) (c6 : PySem.W.codeIn K cd6 "are_blocks" = true) (k6 : PySem.W.keepIn K (.ref f6) = true)
    (a7 : PySem.W.nsIn K mainGlobals "is_asked" = some (some (.ref f7))) (l7 : K.lookup f7 = some ⟨oc7, od7, .func (PySem.W.fnOf "is_asked" "is_asked" (defArgs s_is_asked) (defBody s_is_asked) (defScope s_is_asked) .none kV7 dc7 pm7 an7 cd7 ct7), sl7⟩) (c7 : PySem.W.codeIn K cd7 "is_asked" = true) (k7 : PySem.W.keepIn K (.ref f7) = true)
    (a8 : PySem.W.nsIn K mainGlobals "is_shape" = some (some (.ref f8))) (l8 : K.lookup f8 = some ⟨oc8, od8, .func (PySem.W.fnOf "is_shape" "is_shape" (defArgs s_is_shape) (defBody s_is_shape) (defScope s_is_shape) .none kV8 dc8 pm8 an8 cd8 ct8), sl8⟩) (c8 : PySem.W.codeIn K cd8 "is_shape" = true) (k8 : PySem.W.keepIn K (.ref f8) = true)
    (a9 : PySem.W.findIn K (.ref C_Stand) "__init__" = some (some (.ref f9))) (i9 : PySem.W.isFn K (.ref f9) = true) (l9 : K.lookup f9 = some ⟨oc9, od9, .func (PySem.W.fnOf "__init__" "Stand.__init__" (defArgs s_Stand___init__) (defBody s_Stand___init__) (defScope s_Stand___init__) .none (.ref kD9) dc9 pm9 an9 cd9 ct9), sl9⟩) (c9 : PySem.W.codeIn K cd9 "Stand.__init__" = true) (k9 : PySem.W.keepIn K (.ref f9) = true)
    (a10 : PySem.W.findIn K (.ref C_Stand) "__eq__" = some (some (.ref f10))) (i10 : PySem.W.isFn K (.ref f10) = true) (l10 : K.lookup f10 = some ⟨oc10, od10, .func (PySem.W.fnOf "__eq__" "Stand.__eq__" (defArgs s_Stand___eq__) (defBody s_Stand___eq__) (defScope s_Stand___eq__) .none kV10 dc10 pm10 an10 cd10 ct10), sl10⟩) (c10 : PySem.W.codeIn K cd10 "Stand.__eq__" = true) (k10 : PySem.W.keepIn K (.ref f10) = true)
    (a11 : PySem.W.findIn K (.ref C_Stand) "shape" = some (some (.ref f11))) (i11 : PySem.W.isFn K (.ref f11) = true) (l11 : K.lookup f11 = some ⟨oc11, od11, .func (PySem.W.fnOf "shape" "Stand.shape" (defArgs s_Stand_shape) (defBody s_Stand_shape) (defScope s_Stand_shape) .none kV11 dc11 pm11 an11 cd11 ct11), sl11⟩) (c11 : PySem.W.codeIn K cd11 "Stand.shape" = true) (k11 : PySem.W.keepIn K (.ref f11) = true)
    (a12 : PySem.W.nsIn K mainGlobals "standing" = some (some (.ref f12))) (l12 : K.lookup f12 = some ⟨oc12, od12, .func (PySem.W.fnOf "standing" "standing" (defArgs s_standing) (defBody s_standing) (defScope s_standing) .none kV12 dc12 pm12 an12 cd12 ct12), sl12⟩) (c12 : PySem.W.codeIn K cd12 "standing" = true) (k12 : PySem.W.keepIn K (.ref f12) = true)
    (a13 : PySem.W.nsIn K mainGlobals "stand_of" = some (some (.ref f13))) (l13 : K.lookup f13 = some ⟨oc13, od13, .func (PySem.W.fnOf "stand_of" "stand_of" (defArgs s_stand_of) (defBody s_stand_of) (defScope s_stand_of) .none kV13 dc13 pm13 an13 cd13 ct13), sl13⟩) (c13 : PySem.W.codeIn K cd13 "stand_of" = true) (k13 : PySem.W.keepIn K (.ref f13) = true)
    (a14 : PySem.W.nsIn K mainGlobals "_law_cell" = some (some (.ref f14))) (l14 : K.lookup f14 = some ⟨oc14, od14, .func (PySem.W.fnOf "_law_cell" "_law_cell" (defArgs s__law_cell) (defBody s__law_cell) (defScope s__law_cell) .none kV14 dc14 pm14 an14 cd14 ct14), sl14⟩) (c14 : PySem.W.codeIn K cd14 "_law_cell" = true) (k14 : PySem.W.keepIn K (.ref f14) = true)
    (a15 : PySem.W.nsIn K mainGlobals "_law_mixed" = some (some (.ref f15))) (l15 : K.lookup f15 = some ⟨oc15, od15, .func (PySem.W.fnOf "_law_mixed" "_law_mixed" (defArgs s__law_mixed) (defBody s__law_mixed) (defScope s__law_mixed) .none kV15 dc15 pm15 an15 cd15 ct15), sl15⟩) (c15 : PySem.W.codeIn K cd15 "_law_mixed" = true) (k15 : PySem.W.keepIn K (.ref f15) = true)
    (a16 : PySem.W.nsIn K mainGlobals "_law_digits" = some (some (.ref f16))) (l16 : K.lookup f16 = some ⟨oc16, od16, .func (PySem.W.fnOf "_law_digits" "_law_digits" (defArgs s__law_digits) (defBody s__law_digits) (defScope s__law_digits) .none kV16 dc16 pm16 an16 cd16 ct16), sl16⟩) (c16 : PySem.W.codeIn K cd16 "_law_digits" = true) (k16 : PySem.W.keepIn K (.ref f16) = true)
    (a17 : PySem.W.nsIn K mainGlobals "_law_same" = some (some (.ref f17))) (l17 : K.lookup f17 = some ⟨oc17, od17, .func (PySem.W.fnOf "_law_same" "_law_same" (defArgs s__law_same) (defBody s__law_same) (defScope s__law_same) .none kV17 dc17 pm17 an17 cd17 ct17), sl17⟩) (c17 : PySem.W.codeIn K cd17 "_law_same" = true) (k17 : PySem.W.keepIn K (.ref f17) = true)
    (a18 : PySem.W.nsIn K mainGlobals "_law_left" = some (some (.ref f18))) (l18 : K.lookup f18 = some ⟨oc18, od18, .func (PySem.W.fnOf "_law_left" "_law_left" (defArgs s__law_left) (defBody s__law_left) (defScope s__law_left) .none kV18 dc18 pm18 an18 cd18 ct18), sl18⟩) (c18 : PySem.W.codeIn K cd18 "_law_left" = true) (k18 : PySem.W.keepIn K (.ref f18) = true)
    (a19 : PySem.W.nsIn K mainGlobals "_law_pages" = some (some (.ref f19))) (l19 : K.lookup f19 = some ⟨oc19, od19, .func (PySem.W.fnOf "_law_pages" "_law_pages" (defArgs s__law_pages) (defBody s__law_pages) (defScope s__law_pages) .none kV19 dc19 pm19 an19 cd19 ct19), sl19⟩) (c19 : PySem.W.codeIn K cd19 "_law_pages" = true) (k19 : PySem.W.keepIn K (.ref f19) = true)
    (a20 : PySem.W.nsIn K mainGlobals "_law_block" = some (some (.ref f20))) (l20 : K.lookup f20 = some ⟨oc20, od20, .func (PySem.W.fnOf "_law_block" "_law_block" (defArgs s__law_block) (defBody s__law_block) (defScope s__law_block) .none kV20 dc20 pm20 an20 cd20 ct20), sl20⟩) (c20 : PySem.W.codeIn K cd20 "_law_block" = true) (k20 : PySem.W.keepIn K (.ref f20) = true)
    (a21 : PySem.W.nsIn K mainGlobals "_law_drawn" = some (some (.ref f21))) (l21 : K.lookup f21 = some ⟨oc21, od21, .func (PySem.W.fnOf "_law_drawn" "_law_drawn" (defArgs s__law_drawn) (defBody s__law_drawn) (defScope s__law_drawn) .none kV21 dc21 pm21 an21 cd21 ct21), sl21⟩) (c21 : PySem.W.codeIn K cd21 "_law_drawn" = true) (k21 : PySem.W.keepIn K (.ref f21) = true)
    (a22 : PySem.W.nsIn K mainGlobals "_law_stand" = some (some (.ref f22))) (l22 : K.lookup f22 = some ⟨oc22, od22, .func (PySem.W.fnOf "_law_stand" "_law_stand" (defArgs s__law_stand) (defBody s__law_stand) (defScope s__law_stand) .none kV22 dc22 pm22 an22 cd22 ct22), sl22⟩) (c22 : PySem.W.codeIn K cd22 "_law_stand" = true) (k22 : PySem.W.keepIn K (.ref f22) = true)
    (a23 : PySem.W.nsIn K mainGlobals "_law_odd" = some (some (.ref f23))) (l23 : K.lookup f23 = some ⟨oc23, od23, .func (PySem.W.fnOf "_law_odd" "_law_odd" (defArgs s__law_odd) (defBody s__law_odd) (defScope s__law_odd) .none kV23 dc23 pm23 an23 cd23 ct23), sl23⟩) (c23 : PySem.W.codeIn K cd23 "_law_odd" = true) (k23 : PySem.W.keepIn K (.ref f23) = true)
    (a24 : PySem.W.nsIn K mainGlobals "_law_is_int" = some (some (.ref f24))) (l24 : K.lookup f24 = some ⟨oc24, od24, .func (PySem.W.fnOf "_law_is_int" "_law_is_int" (defArgs s__law_is_int) (defBody s__law_is_int) (defScope s__law_is_int) .none kV24 dc24 pm24 an24 cd24 ct24), sl24⟩) (c24 : PySem.W.codeIn K cd24 "_law_is_int" = true) (k24 : PySem.W.keepIn K (.ref f24) = true)
    (a25 : PySem.W.nsIn K mainGlobals "_law_page_right" = some (some (.ref f25))) (l25 : K.lookup f25 = some ⟨oc25, od25, .func (PySem.W.fnOf "_law_page_right" "_law_page_right" (defArgs s__law_page_right) (defBody s__law_page_right) (defScope s__law_page_right) .none kV25 dc25 pm25 an25 cd25 ct25), sl25⟩) (c25 : PySem.W.codeIn K cd25 "_law_page_right" = true) (k25 : PySem.W.keepIn K (.ref f25) = true)
    (a26 : PySem.W.nsIn K mainGlobals "_law_left_right" = some (some (.ref f26))) (l26 : K.lookup f26 = some ⟨oc26, od26, .func (PySem.W.fnOf "_law_left_right" "_law_left_right" (defArgs s__law_left_right) (defBody s__law_left_right) (defScope s__law_left_right) .none kV26 dc26 pm26 an26 cd26 ct26), sl26⟩) (c26 : PySem.W.codeIn K cd26 "_law_left_right" = true) (k26 : PySem.W.keepIn K (.ref f26) = true)
    (a27 : PySem.W.nsIn K mainGlobals "_law_block_right" = some (some (.ref f27))) (l27 : K.lookup f27 = some ⟨oc27, od27, .func (PySem.W.fnOf "_law_block_right" "_law_block_right" (defArgs s__law_block_right) (defBody s__law_block_right) (defScope s__law_block_right) .none kV27 dc27 pm27 an27 cd27 ct27), sl27⟩) (c27 : PySem.W.codeIn K cd27 "_law_block_right" = true) (k27 : PySem.W.keepIn K (.ref f27) = true)
    (a28 : PySem.W.nsIn K mainGlobals "_law_blocks_right" = some (some (.ref f28))) (l28 : K.lookup f28 = some ⟨oc28, od28, .func (PySem.W.fnOf "_law_blocks_right" "_law_blocks_right" (defArgs s__law_blocks_right) (defBody s__law_blocks_right) (defScope s__law_blocks_right) .none kV28 dc28 pm28 an28 cd28 ct28), sl28⟩) (c28 : PySem.W.codeIn K cd28 "_law_blocks_right" = true) (k28 : PySem.W.keepIn K (.ref f28) = true)
    (a29 : PySem.W.nsIn K mainGlobals "_law_bad_part" = some (some (.ref f29))) (l29 : K.lookup f29 = some ⟨oc29, od29, .func (PySem.W.fnOf "_law_bad_part" "_law_bad_part" (defArgs s__law_bad_part) (defBody s__law_bad_part) (defScope s__law_bad_part) .none kV29 dc29 pm29 an29 cd29 ct29), sl29⟩) (c29 : PySem.W.codeIn K cd29 "_law_bad_part" = true) (k29 : PySem.W.keepIn K (.ref f29) = true)
    (a30 : PySem.W.nsIn K mainGlobals "_law_bent_here" = some (some (.ref f30))) (l30 : K.lookup f30 = some ⟨oc30, od30, .func (PySem.W.fnOf "_law_bent_here" "_law_bent_here" (defArgs s__law_bent_here) (defBody s__law_bent_here) (defScope s__law_bent_here) .none kV30 dc30 pm30 an30 cd30 ct30), sl30⟩) (c30 : PySem.W.codeIn K cd30 "_law_bent_here" = true) (k30 : PySem.W.keepIn K (.ref f30) = true)
    (a31 : PySem.W.nsIn K mainGlobals "_law_bent" = some (some (.ref f31))) (l31 : K.lookup f31 = some ⟨oc31, od31, .func (PySem.W.fnOf "_law_bent" "_law_bent" (defArgs s__law_bent) (defBody s__law_bent) (defScope s__law_bent) .none kV31 dc31 pm31 an31 cd31 ct31), sl31⟩) (c31 : PySem.W.codeIn K cd31 "_law_bent" = true) (k31 : PySem.W.keepIn K (.ref f31) = true)
    (a32 : PySem.W.nsIn K mainGlobals "_law_turned" = some (some (.ref f32))) (l32 : K.lookup f32 = some ⟨oc32, od32, .func (PySem.W.fnOf "_law_turned" "_law_turned" (defArgs s__law_turned) (defBody s__law_turned) (defScope s__law_turned) .none kV32 dc32 pm32 an32 cd32 ct32), sl32⟩) (c32 : PySem.W.codeIn K cd32 "_law_turned" = true) (k32 : PySem.W.keepIn K (.ref f32) = true)
    (a33 : PySem.W.nsIn K mainGlobals "_law_is_shape" = some (some (.ref f33))) (l33 : K.lookup f33 = some ⟨oc33, od33, .func (PySem.W.fnOf "_law_is_shape" "_law_is_shape" (defArgs s__law_is_shape) (defBody s__law_is_shape) (defScope s__law_is_shape) .none kV33 dc33 pm33 an33 cd33 ct33), sl33⟩) (c33 : PySem.W.codeIn K cd33 "_law_is_shape" = true) (k33 : PySem.W.keepIn K (.ref f33) = true)
    (a34 : PySem.W.nsIn K mainGlobals "_law_made" = some (some (.ref f34))) (l34 : K.lookup f34 = some ⟨oc34, od34, .func (PySem.W.fnOf "_law_made" "_law_made" (defArgs s__law_made) (defBody s__law_made) (defScope s__law_made) .none kV34 dc34 pm34 an34 cd34 ct34), sl34⟩) (c34 : PySem.W.codeIn K cd34 "_law_made" = true) (k34 : PySem.W.keepIn K (.ref f34) = true)
    (a35 : PySem.W.nsIn K mainGlobals "law" = some (some (.ref f35))) (l35 : K.lookup f35 = some ⟨oc35, od35, .func (PySem.W.fnOf "law" "law" (defArgs s_law) (defBody s_law) (defScope s_law) .none kV35 dc35 pm35 an35 cd35 ct35), sl35⟩) (c35 : PySem.W.codeIn K cd35 "law" = true) (k35 : PySem.W.keepIn K (.ref f35) = true)
    (d9 : PySem.W.nsIn K kD9 "asked" = some (some (.none)))
    (z_bool : PySem.W.nsIn K mainGlobals "bool" = some none)
    (z_int : PySem.W.nsIn K mainGlobals "int" = some none)
    (z_isinstance : PySem.W.nsIn K mainGlobals "isinstance" = some none)
    (z_len : PySem.W.nsIn K mainGlobals "len" = some none)
    (z_list : PySem.W.nsIn K mainGlobals "list" = some none)
    (z_range : PySem.W.nsIn K mainGlobals "range" = some none)
    (z_set : PySem.W.nsIn K mainGlobals "set" = some none)
    (z_sorted : PySem.W.nsIn K mainGlobals "sorted" = some none)
    (z_str : PySem.W.nsIn K mainGlobals "str" = some none)
    (z_tuple : PySem.W.nsIn K mainGlobals "tuple" = some none)
    (q_MOST_COUNT : PySem.W.nsIn K mainGlobals "MOST_COUNT" = some (some (.int 9 t_MOST_COUNT)))
    (q_MOST_LEFT : PySem.W.nsIn K mainGlobals "MOST_LEFT" = some (some (.int 99 t_MOST_LEFT)))
    (q_MOST_PAGES : PySem.W.nsIn K mainGlobals "MOST_PAGES" = some (some (.int 6 t_MOST_PAGES)))
    (ic_Stand : PySem.W.isClsIn K C_Stand = true)
    (ocg : PySem.W.specialIn K (.builtin "object.__class__") "__get__" = some (some (.builtin "getset_descriptor.__get__")))
    (oct : PySem.W.takesIn K (.builtin "object.__class__") = some true)
    (oc_Stand : PySem.W.findIn K (.ref C_Stand) "__class__" = some (some (.builtin "object.__class__")))
    (mo_Stand : PySem.W.mroIn K C_Stand (.type "object") = some true)
    (ki_Stand_Stand : PySem.W.kitOne K (.ref C_Stand) (.ref C_Stand) = some true)
    (kz_Stand : PySem.W.kitOne K (.type "NoneType") (.ref C_Stand) = some false) :
    ∃ fd : FuncData, (∀ (s : Shared) (v : Value), BindsTo s fd ⟨[v], []⟩ [("_law_script", v)]) ∧ ∀ (P : Program) (w : World) (base : Heap), FnOk P w K mg base (L2.CX P w) 12 fa fd ["_law_script"] (spLaw K) := by
  have e := hfa.symm.trans (PySem.W.mg_of X G a35)
  cases e
  have F0 := fun_mk (st := s_is_integer) l0 c0 k0
  have E0 : Here K mg "is_integer" s_is_integer ["thing"] := ⟨_, _, F0, PySem.W.mg_of X G a0, F0.binds (ps := ["thing"]) fun _ _ _ _ _ _ us hl => match us, hl with | [_], _ => rfl⟩
  have F1 := fun_mk (st := s_in_range) l1 c1 k1
  have E1 : Here K mg "in_range" s_in_range ["thing", "low", "high"] := ⟨_, _, F1, PySem.W.mg_of X G a1, F1.binds (ps := ["thing", "low", "high"]) fun _ _ _ _ _ _ us hl => match us, hl with | [_, _, _], _ => rfl⟩
  have F2 := fun_mk (st := s_is_left) l2 c2 k2
  have E2 : Here K mg "is_left" s_is_left ["thing"] := ⟨_, _, F2, PySem.W.mg_of X G a2, F2.binds (ps := ["thing"]) fun _ _ _ _ _ _ us hl => match us, hl with | [_], _ => rfl⟩
  have F3 := fun_mk (st := s_is_page) l3 c3 k3
  have E3 : Here K mg "is_page" s_is_page ["thing", "keys"] := ⟨_, _, F3, PySem.W.mg_of X G a3, F3.binds (ps := ["thing", "keys"]) fun _ _ _ _ _ _ us hl => match us, hl with | [_, _], _ => rfl⟩
  have F4 := fun_mk (st := s_are_pages) l4 c4 k4
  have E4 : Here K mg "are_pages" s_are_pages ["thing", "keys"] := ⟨_, _, F4, PySem.W.mg_of X G a4, F4.binds (ps := ["thing", "keys"]) fun _ _ _ _ _ _ us hl => match us, hl with | [_, _], _ => rfl⟩
  have F5 := fun_mk (st := s_is_block) l5 c5 k5
  have E5 : Here K mg "is_block" s_is_block ["thing", "keys"] := ⟨_, _, F5, PySem.W.mg_of X G a5, F5.binds (ps := ["thing", "keys"]) fun _ _ _ _ _ _ us hl => match us, hl with | [_, _], _ => rfl⟩
  have F6 := fun_mk (st := s_are_blocks) l6 c6 k6
  have E6 : Here K mg "are_blocks" s_are_blocks ["rows", "keys"] := ⟨_, _, F6, PySem.W.mg_of X G a6, F6.binds (ps := ["rows", "keys"]) fun _ _ _ _ _ _ us hl => match us, hl with | [_, _], _ => rfl⟩
  have F7 := fun_mk (st := s_is_asked) l7 c7 k7
  have E7 : Here K mg "is_asked" s_is_asked ["thing", "keys"] := ⟨_, _, F7, PySem.W.mg_of X G a7, F7.binds (ps := ["thing", "keys"]) fun _ _ _ _ _ _ us hl => match us, hl with | [_, _], _ => rfl⟩
  have F8 := fun_mk (st := s_is_shape) l8 c8 k8
  have E8 : Here K mg "is_shape" s_is_shape ["thing"] := ⟨_, _, F8, PySem.W.mg_of X G a8, F8.binds (ps := ["thing"]) fun _ _ _ _ _ _ us hl => match us, hl with | [_], _ => rfl⟩
  have F9 := fun_mk (st := s_Stand___init__) l9 c9 k9
  have B9 := kwb_of (ps := ["self", "keys", "blocks", "fails", "cuts", "asked"]) (d := D.non) (v := V.non) (f := f9) (F := ⟨⟨_, _, _, _, _, _, _, _, _, _, rfl, l9, c9, .inl ⟨rfl, rfl⟩, .inr ⟨kD9, rfl, fun q hq => (List.mem_singleton.mp hq) ▸ ⟨_, d9, rfl⟩⟩⟩, k9⟩) 5 rfl rfl (fun D doc pm an cdv ct us ks hu hk => match us, ks, hu, hk with | [_, _, _, _, _], [_], _, _ => ⟨_, _, _, _, _, _, rfl, rfl, rfl⟩) (fun D doc pm an cdv ct us ks hu hk => match us, ks, hu, hk with | [_, _, _, _, _], [_], _, _ => rfl)
  have E9 : HereIK K mg "Stand" "Stand.__init__" s_Stand___init__ ["self", "keys", "blocks", "fails", "cuts", "asked"] "asked" D.non := ⟨_, _, _, PySem.W.mg_of X G aC_Stand, ⟨mk_Stand, a9, i9, kc_Stand⟩, F9, B9⟩
  have F10 := fun_mk (st := s_Stand___eq__) l10 c10 k10
  have E10 : HereM K mg "Stand" "__eq__" "Stand.__eq__" s_Stand___eq__ ["self", "other"] := ⟨_, _, _, PySem.W.mg_of X G aC_Stand, ⟨pg_Stand, hd_Stand, po_Stand, sa_Stand⟩, ⟨a10, i10, k10⟩, F10, F10.binds (ps := ["self", "other"]) fun _ _ _ _ _ _ us hl => match us, hl with | [_, _], _ => rfl⟩
  have F11 := fun_mk (st := s_Stand_shape) l11 c11 k11
  have E11 : HereM K mg "Stand" "shape" "Stand.shape" s_Stand_shape ["self"] := ⟨_, _, _, PySem.W.mg_of X G aC_Stand, ⟨pg_Stand, hd_Stand, po_Stand, sa_Stand⟩, ⟨a11, i11, k11⟩, F11, F11.binds (ps := ["self"]) fun _ _ _ _ _ _ us hl => match us, hl with | [_], _ => rfl⟩
  have F12 := fun_mk (st := s_standing) l12 c12 k12
  have E12 : Here K mg "standing" s_standing ["form"] := ⟨_, _, F12, PySem.W.mg_of X G a12, F12.binds (ps := ["form"]) fun _ _ _ _ _ _ us hl => match us, hl with | [_], _ => rfl⟩
  have F13 := fun_mk (st := s_stand_of) l13 c13 k13
  have E13 : Here K mg "stand_of" s_stand_of ["shape"] := ⟨_, _, F13, PySem.W.mg_of X G a13, F13.binds (ps := ["shape"]) fun _ _ _ _ _ _ us hl => match us, hl with | [_], _ => rfl⟩
  have F14 := fun_mk (st := s__law_cell) l14 c14 k14
  have E14 : Here K mg "_law_cell" s__law_cell ["_law_script", "_law_k"] := ⟨_, _, F14, PySem.W.mg_of X G a14, F14.binds (ps := ["_law_script", "_law_k"]) fun _ _ _ _ _ _ us hl => match us, hl with | [_, _], _ => rfl⟩
  have F15 := fun_mk (st := s__law_mixed) l15 c15 k15
  have E15 : Here K mg "_law_mixed" s__law_mixed ["_law_cell_here", "_law_k"] := ⟨_, _, F15, PySem.W.mg_of X G a15, F15.binds (ps := ["_law_cell_here", "_law_k"]) fun _ _ _ _ _ _ us hl => match us, hl with | [_, _], _ => rfl⟩
  have F16 := fun_mk (st := s__law_digits) l16 c16 k16
  have E16 : Here K mg "_law_digits" s__law_digits ["_law_cell_here", "_law_sizes"] := ⟨_, _, F16, PySem.W.mg_of X G a16, F16.binds (ps := ["_law_cell_here", "_law_sizes"]) fun _ _ _ _ _ _ us hl => match us, hl with | [_, _], _ => rfl⟩
  have F17 := fun_mk (st := s__law_same) l17 c17 k17
  have E17 : Here K mg "_law_same" s__law_same ["_law_got", "_law_due"] := ⟨_, _, F17, PySem.W.mg_of X G a17, F17.binds (ps := ["_law_got", "_law_due"]) fun _ _ _ _ _ _ us hl => match us, hl with | [_, _], _ => rfl⟩
  have F18 := fun_mk (st := s__law_left) l18 c18 k18
  have E18 : Here K mg "_law_left" s__law_left ["_law_digit"] := ⟨_, _, F18, PySem.W.mg_of X G a18, F18.binds (ps := ["_law_digit"]) fun _ _ _ _ _ _ us hl => match us, hl with | [_], _ => rfl⟩
  have F19 := fun_mk (st := s__law_pages) l19 c19 k19
  have E19 : Here K mg "_law_pages" s__law_pages ["_law_digits_here", "_law_rest", "_law_pages_here", "_law_written"] := ⟨_, _, F19, PySem.W.mg_of X G a19, F19.binds (ps := ["_law_digits_here", "_law_rest", "_law_pages_here", "_law_written"]) fun _ _ _ _ _ _ us hl => match us, hl with | [_, _, _, _], _ => rfl⟩
  have F20 := fun_mk (st := s__law_block) l20 c20 k20
  have E20 : Here K mg "_law_block" s__law_block ["_law_cell_here", "_law_rest", "_law_pages_here"] := ⟨_, _, F20, PySem.W.mg_of X G a20, F20.binds (ps := ["_law_cell_here", "_law_rest", "_law_pages_here"]) fun _ _ _ _ _ _ us hl => match us, hl with | [_, _, _], _ => rfl⟩
  have F21 := fun_mk (st := s__law_drawn) l21 c21 k21
  have E21 : Here K mg "_law_drawn" s__law_drawn ["_law_script", "_law_at"] := ⟨_, _, F21, PySem.W.mg_of X G a21, F21.binds (ps := ["_law_script", "_law_at"]) fun _ _ _ _ _ _ us hl => match us, hl with | [_, _], _ => rfl⟩
  have F22 := fun_mk (st := s__law_stand) l22 c22 k22
  have E22 : Here K mg "_law_stand" s__law_stand ["_law_shape"] := ⟨_, _, F22, PySem.W.mg_of X G a22, F22.binds (ps := ["_law_shape"]) fun _ _ _ _ _ _ us hl => match us, hl with | [_], _ => rfl⟩
  have F23 := fun_mk (st := s__law_odd) l23 c23 k23
  have E23 : Here K mg "_law_odd" s__law_odd ["_law_digit"] := ⟨_, _, F23, PySem.W.mg_of X G a23, F23.binds (ps := ["_law_digit"]) fun _ _ _ _ _ _ us hl => match us, hl with | [_], _ => rfl⟩
  have F24 := fun_mk (st := s__law_is_int) l24 c24 k24
  have E24 : Here K mg "_law_is_int" s__law_is_int ["_law_thing", "_law_low", "_law_high"] := ⟨_, _, F24, PySem.W.mg_of X G a24, F24.binds (ps := ["_law_thing", "_law_low", "_law_high"]) fun _ _ _ _ _ _ us hl => match us, hl with | [_, _, _], _ => rfl⟩
  have F25 := fun_mk (st := s__law_page_right) l25 c25 k25
  have E25 : Here K mg "_law_page_right" s__law_page_right ["_law_page", "_law_keys"] := ⟨_, _, F25, PySem.W.mg_of X G a25, F25.binds (ps := ["_law_page", "_law_keys"]) fun _ _ _ _ _ _ us hl => match us, hl with | [_, _], _ => rfl⟩
  have F26 := fun_mk (st := s__law_left_right) l26 c26 k26
  have E26 : Here K mg "_law_left_right" s__law_left_right ["_law_left_here", "_law_pages_here"] := ⟨_, _, F26, PySem.W.mg_of X G a26, F26.binds (ps := ["_law_left_here", "_law_pages_here"]) fun _ _ _ _ _ _ us hl => match us, hl with | [_, _], _ => rfl⟩
  have F27 := fun_mk (st := s__law_block_right) l27 c27 k27
  have E27 : Here K mg "_law_block_right" s__law_block_right ["_law_block_here", "_law_keys"] := ⟨_, _, F27, PySem.W.mg_of X G a27, F27.binds (ps := ["_law_block_here", "_law_keys"]) fun _ _ _ _ _ _ us hl => match us, hl with | [_, _], _ => rfl⟩
  have F28 := fun_mk (st := s__law_blocks_right) l28 c28 k28
  have E28 : Here K mg "_law_blocks_right" s__law_blocks_right ["_law_rows", "_law_keys"] := ⟨_, _, F28, PySem.W.mg_of X G a28, F28.binds (ps := ["_law_rows", "_law_keys"]) fun _ _ _ _ _ _ us hl => match us, hl with | [_, _], _ => rfl⟩
  have F29 := fun_mk (st := s__law_bad_part) l29 c29 k29
  have E29 : Here K mg "_law_bad_part" s__law_bad_part ["_law_parts"] := ⟨_, _, F29, PySem.W.mg_of X G a29, F29.binds (ps := ["_law_parts"]) fun _ _ _ _ _ _ us hl => match us, hl with | [_], _ => rfl⟩
  have F30 := fun_mk (st := s__law_bent_here) l30 c30 k30
  have E30 : Here K mg "_law_bent_here" s__law_bent_here ["_law_thing", "_law_digit"] := ⟨_, _, F30, PySem.W.mg_of X G a30, F30.binds (ps := ["_law_thing", "_law_digit"]) fun _ _ _ _ _ _ us hl => match us, hl with | [_, _], _ => rfl⟩
  have F31 := fun_mk (st := s__law_bent) l31 c31 k31
  have E31 : Here K mg "_law_bent" s__law_bent ["_law_thing", "_law_digits_here"] := ⟨_, _, F31, PySem.W.mg_of X G a31, F31.binds (ps := ["_law_thing", "_law_digits_here"]) fun _ _ _ _ _ _ us hl => match us, hl with | [_, _], _ => rfl⟩
  have F32 := fun_mk (st := s__law_turned) l32 c32 k32
  have E32 : Here K mg "_law_turned" s__law_turned ["_law_shape", "_law_cell_here"] := ⟨_, _, F32, PySem.W.mg_of X G a32, F32.binds (ps := ["_law_shape", "_law_cell_here"]) fun _ _ _ _ _ _ us hl => match us, hl with | [_, _], _ => rfl⟩
  have F33 := fun_mk (st := s__law_is_shape) l33 c33 k33
  have E33 : Here K mg "_law_is_shape" s__law_is_shape ["_law_thing"] := ⟨_, _, F33, PySem.W.mg_of X G a33, F33.binds (ps := ["_law_thing"]) fun _ _ _ _ _ _ us hl => match us, hl with | [_], _ => rfl⟩
  have F34 := fun_mk (st := s__law_made) l34 c34 k34
  have E34 : Here K mg "_law_made" s__law_made ["_law_thing"] := ⟨_, _, F34, PySem.W.mg_of X G a34, F34.binds (ps := ["_law_thing"]) fun _ _ _ _ _ _ us hl => match us, hl with | [_], _ => rfl⟩
  have F35 := fun_mk (st := s_law) l35 c35 k35
  have E35 : Here K mg "law" s_law ["_law_script"] := ⟨_, _, F35, PySem.W.mg_of X G a35, F35.binds (ps := ["_law_script"]) fun _ _ _ _ _ _ us hl => match us, hl with | [_], _ => rfl⟩
  have FE0 := fun_mk (st := s_NoStand) lE0 ccE0 kkE0
  have XE0 : HereX K mg "NoStand" "part" "NoStand.__init__" s_NoStand ["self", "part"] := ⟨_, _, _, PySem.W.mg_of X G aC_NoStand, ⟨⟨_, _, _, _, _, _, _, _, _, _, _, _, _, _, _, lk_NoStand, rv_NoStand⟩, sa_NoStand, bF_NoStand, tF_NoStand, kF_NoStand⟩, nf_NoStand_part, in_NoStand, ty_NoStand, FE0, FE0.binds (ps := ["self", "part"]) fun _ _ _ _ _ _ us hl => match us, hl with | [_, _], _ => rfl⟩
  have A : All K mg := ⟨⟨PySem.W.mg_none_of X G z_bool, PySem.W.mg_none_of X G z_int, PySem.W.mg_none_of X G z_isinstance, PySem.W.mg_none_of X G z_len, PySem.W.mg_none_of X G z_list, PySem.W.mg_none_of X G z_range, PySem.W.mg_none_of X G z_set, PySem.W.mg_none_of X G z_sorted, PySem.W.mg_none_of X G z_str, PySem.W.mg_none_of X G z_tuple, ⟨_, PySem.W.mg_of X G q_MOST_COUNT⟩, ⟨_, PySem.W.mg_of X G q_MOST_LEFT⟩, ⟨_, PySem.W.mg_of X G q_MOST_PAGES⟩, ⟨_, PySem.W.mg_of X G aC_NoStand⟩, exm_is (PySem.W.mg_of X G aC_NoStand) (PySem.W.mg_of X G aC_NoStand) bF_NoStand iF_NoStand tF_NoStand sF_NoStand_NoStand, ⟨_, PySem.W.mg_of X G aC_NoStand, ⟨ga_NoStand, gg_NoStand, bF_NoStand, hd_NoStand⟩, nf_NoStand_part⟩, ⟨_, PySem.W.mg_of X G aC_SpentError, ⟨rd_SpentError, gs_SpentError, ci_SpentError⟩⟩, ⟨_, PySem.W.mg_of X G aC_Stand, ⟨⟨pg_Stand, hd_Stand, po_Stand, sa_Stand⟩, oc_Stand, ocg, oct, mo_Stand, ki_Stand_Stand⟩, kz_Stand⟩, ⟨_, PySem.W.mg_of X G aC_Stand, pg_Stand, hd_Stand, po_Stand, sa_Stand⟩, noA_of (PySem.W.mg_of X G aC_Stand) nA_Stand_form⟩, E0, E1, E2, E3, E4, E5, E6, E7, E8, E9, E10, E11, E12, E13, E14, E15, E16, E17, E18, E19, E20, E21, E22, E23, E24, E25, E26, E27, E28, E29, E30, E31, E32, E33, E34, E35, XE0⟩
  exact ⟨_, fun s v => .of_eq rfl, fun P w base => law_fn A F35⟩
end
end law_k02
open PySem PySem.W PyProof.Rows
set_option maxHeartbeats 0 in
theorem PySem.Challenge.cw_spentblocks_k02_whole_shapes_there_and_b_holds : PySem.Challenge.rw_spentblocks_k02_whole_shapes_there_and_b.Holds := by
  w_on; o_law; k_head; (case hw => w_witness2)
  k_fill
  refine L2.walk_of (l := PySem.Challenge.rw_spentblocks_k02_whole_shapes_there_and_b) (n := 63) (k := 12) (x := "_law_script") (CX := fun w => L2.CX PySem.Challenge.rw_spentblocks_k02_whole_shapes_there_and_b.prog w) (sp := fun w => DL.spLaw _) rfl (by decide) rfl ⟨rfl, by decide, by decide⟩ (fun w h Y => PySem.W.kIn_of Y) ?F (fun _ _ a ns hl ho hS => ⟨a, ns, rfl, DL.rol_only ho hS, hl, ho, fun _ => rfl⟩) (fun _ _ _ _ _ ⟨_, _, _, _, _, _, _, _, _, _, _, _, h⟩ => h)
  case F =>
    intro w mg fa h KX G hmg
    refine' Exists.imp (fun fd hh => ⟨hh.1, fun base _ _ => hh.2 _ w base⟩) (law_k02.all_mk KX G hmg ?aC_NoStand ?aC_SpentError ?aC_Stand ?pg_Stand ?hd_Stand ?po_Stand ?sa_Stand ?mk_Stand ?kc_Stand ?nA_Stand_form ?bF_NoStand ?tF_NoStand ?iF_NoStand ?lk_NoStand ?rv_NoStand ?sa_NoStand ?kF_NoStand ?nf_NoStand_part ?in_NoStand ?ty_NoStand ?lE0 ?ccE0 ?kkE0 ?rd_SpentError ?gs_SpentError ?ci_SpentError ?ga_NoStand ?gg_NoStand ?hd_NoStand ?sF_NoStand_NoStand ?a0 ?l0 ?c0 ?k0 ?a1 ?l1 ?c1 ?k1 ?a2 ?l2 ?c2 ?k2 ?a3 ?l3 ?c3 ?k3 ?a4 ?l4 ?c4 ?k4 ?a5 ?l5 ?c5 ?k5 ?a6 ?l6 ?c6 ?k6 ?a7 ?l7 ?c7 ?k7 ?a8 ?l8 ?c8 ?k8 ?a9 ?i9 ?l9 ?c9 ?k9 ?a10 ?i10 ?l10 ?c10 ?k10 ?a11 ?i11 ?l11 ?c11 ?k11 ?a12 ?l12 ?c12 ?k12 ?a13 ?l13 ?c13 ?k13 ?a14 ?l14 ?c14 ?k14 ?a15 ?l15 ?c15 ?k15 ?a16 ?l16 ?c16 ?k16 ?a17 ?l17 ?c17 ?k17 ?a18 ?l18 ?c18 ?k18 ?a19 ?l19 ?c19 ?k19 ?a20 ?l20 ?c20 ?k20 ?a21 ?l21 ?c21 ?k21 ?a22 ?l22 ?c22 ?k22 ?a23 ?l23 ?c23 ?k23 ?a24 ?l24 ?c24 ?k24 ?a25 ?l25 ?c25 ?k25 ?a26 ?l26 ?c26 ?k26 ?a27 ?l27 ?c27 ?k27 ?a28 ?l28 ?c28 ?k28 ?a29 ?l29 ?c29 ?k29 ?a30 ?l30 ?c30 ?k30 ?a31 ?l31 ?c31 ?k31 ?a32 ?l32 ?c32 ?k32 ?a33 ?l33 ?c33 ?k33 ?a34 ?l34 ?c34 ?k34 ?a35 ?l35 ?c35 ?k35 ?d9 ?z_bool ?z_int ?z_isinstance ?z_len ?z_list ?z_range ?z_set ?z_sorted ?z_str ?z_tuple ?q_MOST_COUNT ?q_MOST_LEFT ?q_MOST_PAGES ?ic_Stand ?ocg ?oct ?oc_Stand ?mo_Stand ?ki_Stand_Stand ?kz_Stand)
    (case aC_NoStand => k_is); (case aC_SpentError => k_is); (case aC_Stand => k_is); (case pg_Stand => k_is); (case hd_Stand => k_is); (case po_Stand => k_is); (case sa_Stand => k_is); (case mk_Stand => k_is); (case kc_Stand => k_is); (case nA_Stand_form => k_is); (case bF_NoStand => k_is); (case tF_NoStand => k_is)
    (case iF_NoStand => k_is); (case lk_NoStand => k_is); (case rv_NoStand => rfl); (case sa_NoStand => k_is); (case kF_NoStand => k_is); (case nf_NoStand_part => k_is); (case in_NoStand => k_is); (case ty_NoStand => k_is); (case lE0 => k_is); (case ccE0 => k_is); (case kkE0 => k_is); (case rd_SpentError => k_is)
    (case gs_SpentError => k_is); (case ci_SpentError => k_is); (case ga_NoStand => k_is); (case gg_NoStand => k_is); (case hd_NoStand => k_is); (case sF_NoStand_NoStand => first | rfl | k_is); (case a0 => k_is); (case l0 => k_is); (case c0 => k_is); (case k0 => k_is); (case a1 => k_is); (case l1 => k_is)
    (case c1 => k_is); (case k1 => k_is); (case a2 => k_is); (case l2 => k_is); (case c2 => k_is); (case k2 => k_is); (case a3 => k_is); (case l3 => k_is); (case c3 => k_is); (case k3 => k_is); (case a4 => k_is); (case l4 => k_is)
    (case c4 => k_is); (case k4 => k_is); (case a5 => k_is); (case l5 => k_is); (case c5 => k_is); (case k5 => k_is); (case a6 => k_is); (case l6 => k_is); (case c6 => k_is); (case k6 => k_is); (case a7 => k_is); (case l7 => k_is)
    (case c7 => k_is); (case k7 => k_is); (case a8 => k_is); (case l8 => k_is); (case c8 => k_is); (case k8 => k_is); (case a9 => k_is); (case i9 => k_is); (case l9 => k_is); (case c9 => k_is); (case k9 => k_is); (case a10 => k_is)
    (case i10 => k_is); (case l10 => k_is); (case c10 => k_is); (case k10 => k_is); (case a11 => k_is); (case i11 => k_is); (case l11 => k_is); (case c11 => k_is); (case k11 => k_is); (case a12 => k_is); (case l12 => k_is); (case c12 => k_is)
    (case k12 => k_is); (case a13 => k_is); (case l13 => k_is); (case c13 => k_is); (case k13 => k_is); (case a14 => k_is); (case l14 => k_is); (case c14 => k_is); (case k14 => k_is); (case a15 => k_is); (case l15 => k_is); (case c15 => k_is)
    (case k15 => k_is); (case a16 => k_is); (case l16 => k_is); (case c16 => k_is); (case k16 => k_is); (case a17 => k_is); (case l17 => k_is); (case c17 => k_is); (case k17 => k_is); (case a18 => k_is); (case l18 => k_is); (case c18 => k_is)
    (case k18 => k_is); (case a19 => k_is); (case l19 => k_is); (case c19 => k_is); (case k19 => k_is); (case a20 => k_is); (case l20 => k_is); (case c20 => k_is); (case k20 => k_is); (case a21 => k_is); (case l21 => k_is); (case c21 => k_is)
    (case k21 => k_is); (case a22 => k_is); (case l22 => k_is); (case c22 => k_is); (case k22 => k_is); (case a23 => k_is); (case l23 => k_is); (case c23 => k_is); (case k23 => k_is); (case a24 => k_is); (case l24 => k_is); (case c24 => k_is)
    (case k24 => k_is); (case a25 => k_is); (case l25 => k_is); (case c25 => k_is); (case k25 => k_is); (case a26 => k_is); (case l26 => k_is); (case c26 => k_is); (case k26 => k_is); (case a27 => k_is); (case l27 => k_is); (case c27 => k_is)
    (case k27 => k_is); (case a28 => k_is); (case l28 => k_is); (case c28 => k_is); (case k28 => k_is); (case a29 => k_is); (case l29 => k_is); (case c29 => k_is); (case k29 => k_is); (case a30 => k_is); (case l30 => k_is); (case c30 => k_is)
    (case k30 => k_is); (case a31 => k_is); (case l31 => k_is); (case c31 => k_is); (case k31 => k_is); (case a32 => k_is); (case l32 => k_is); (case c32 => k_is); (case k32 => k_is); (case a33 => k_is); (case l33 => k_is); (case c33 => k_is)
    (case k33 => k_is); (case a34 => k_is); (case l34 => k_is); (case c34 => k_is); (case k34 => k_is); (case a35 => k_is); (case l35 => k_is); (case c35 => k_is); (case k35 => k_is); (case d9 => k_is); (case z_bool => k_is); (case z_int => k_is)
    (case z_isinstance => k_is); (case z_len => k_is); (case z_list => k_is); (case z_range => k_is); (case z_set => k_is); (case z_sorted => k_is); (case z_str => k_is); (case z_tuple => k_is); (case q_MOST_COUNT => k_is); (case q_MOST_LEFT => k_is); (case q_MOST_PAGES => k_is); (case ic_Stand => k_is)
    (case ocg => k_is); (case oct => k_is); (case oc_Stand => k_is); (case mo_Stand => k_is); (case ki_Stand_Stand => kit_is); (case kz_Stand => kit_is)
