import PyProof.Rows.All
import HandS.ForMost
import HandS.ForExc
import HandS.TupAny
import HandS.TupMul
import HandS.Wide
import HandS.IsInst
import HandS.Style
import HandS.Deep
import HandS.RaiseMore
import HandS.Rev
import HandS.RevTup
import HandS.SetFor
import PySem.Challenge.RW_spentblocks_k48_whole_lone_life_by_first
set_option Elab.async false
set_option linter.all false
set_option maxRecDepth 100000
set_option maxHeartbeats  4000000
/-! The data layer DL over HandS: values as data D, an own heap of cells, and how they lie in the abstract heap. -/
namespace DL
open PySem PySem.Spec L2
open PyProof.Rows hiding St

/-! ### data, cells -/
inductive D where
  | non
  | bl (b : Bool)
  | int (i : Int)
  | str (x : Str)
  | tup (ds : List D)
  /-- a list that is never written (the script) -/
  | rol (ds : List D)
  /-- a cell of the own heap -/
  | ref (n : Nat)
inductive Cell where
  | lst (ds : List D)
  | dic (kvs : List (Key × D))
  /-- a dict that a loop walks -/
  | ldic (kvs : List (Key × D))
  /-- an instance of the class of this name -/
  | obj (c : Str) (fs : List (Str × D))
abbrev DH := List Cell
abbrev DE := List (Option D)

/-- a read-only list: locked, or of the module -/
def Rol (K : PySem.W.Frag) (H : Hp) (a : Addr) (xs : List V) : Prop :=
  (∃ o, H a = some (.frz o (.lst xs))) ∨
    ∃ (o : Obj) (its : Array Value) (n : Nat), K.lookup a = some o ∧ o.cls = .type "list" ∧ o.dict = none ∧ o.data = .seq its n ∧ its.size ≤ sizeLine ∧ Vals xs its.toList
theorem Rol.sq {K : PySem.W.Frag} {H : Hp} {a : Addr} {xs : List V} (h : Rol K H a xs) : SqL K H a xs := by
  rcases h with ⟨o, e⟩ | h
  · exact .inl (.inr ⟨o, e⟩)
  · exact .inr h

/-- a tuple: known to its object (no dict of its own), or of the module -/
def Tp (K : PySem.W.Frag) (H : Hp) (a : Addr) (xs : List V) : Prop :=
  (∃ o, H a = some (.frz o (.tup xs)) ∧ o.cls = .type "tuple" ∧ o.dict = none) ∨
    ∃ (o : Obj) (its : Array Value) (n : Nat), K.lookup a = some o ∧ o.cls = .type "tuple" ∧ o.dict = none ∧ o.data = .seq its n ∧ its.size ≤ sizeLine ∧ Vals xs its.toList
theorem Tp.sq {K : PySem.W.Frag} {H : Hp} {a : Addr} {xs : List V} (h : Tp K H a xs) : SqT K H a xs := by
  rcases h with ⟨o, e, _, _⟩ | ⟨o, its, n, h1, h2, _, h3, h4, h5⟩
  · exact .inl (.inr ⟨o, e⟩)
  · exact .inr ⟨o, its, n, h1, h2, h3, h4, h5⟩
/-- no dict that a loop walks -/
def notK : HO → Prop
  | .dK _ => False
  | _ => True

mutual
inductive Rep (K : PySem.W.Frag) (ρ : List Addr) (H : Hp) : D → V → Prop
  | non : Rep K ρ H .non .non
  | bl (b : Bool) : Rep K ρ H (.bl b) (.bl b)
  | int (i : Int) : Rep K ρ H (.int i) (.int i)
  | str (x : Str) : Rep K ρ H (.str x) (.str x)
  | tup {ds : List D} {a : Addr} {xs : List V} : Tp K H a xs → RepL K ρ H ds xs → Rep K ρ H (.tup ds) (.ref a)
  | rol {ds : List D} {a : Addr} {xs : List V} : Rol K H a xs → RepL K ρ H ds xs → Rep K ρ H (.rol ds) (.ref a)
  | ref {n : Nat} {a : Addr} : ρ[n]? = some a → Rep K ρ H (.ref n) (.ref a)
inductive RepL (K : PySem.W.Frag) (ρ : List Addr) (H : Hp) : List D → List V → Prop
  | nil : RepL K ρ H [] []
  | cons {d : D} {ds : List D} {v : V} {vs : List V} : Rep K ρ H d v → RepL K ρ H ds vs → RepL K ρ H (d :: ds) (v :: vs)
end

/-- the own heap grows; tuples and locked lists stay -/
structure Grow (ρ : List Addr) (H : Hp) (ρ' : List Addr) (H' : Hp) : Prop where
  pre : ∃ r, ρ' = ρ ++ r
  tup : ∀ a xs, H a = some (.tup xs) → H' a = some (.tup xs)
  frz : ∀ a o u, H a = some (.frz o u) → notK u → H' a = some (.frz o u)
theorem Grow.refl (ρ : List Addr) (H : Hp) : Grow ρ H ρ H := ⟨⟨[], by rw [List.append_nil]⟩, fun _ _ e => e, fun _ _ _ e _ => e⟩
theorem Grow.trans {ρ ρ1 ρ2 : List Addr} {H H1 H2 : Hp} (a : Grow ρ H ρ1 H1) (b : Grow ρ1 H1 ρ2 H2) : Grow ρ H ρ2 H2 := by
  obtain ⟨r, e⟩ := a.pre
  obtain ⟨r', e'⟩ := b.pre
  exact ⟨⟨r ++ r', by rw [e', e, List.append_assoc]⟩, fun x xs h => b.tup x xs (a.tup x xs h), fun x o u h k => b.frz x o u (a.frz x o u h k) k⟩
theorem Grow.at_ {ρ ρ' : List Addr} {H H' : Hp} (g : Grow ρ H ρ' H') {n : Nat} {a : Addr} (h : ρ[n]? = some a) : ρ'[n]? = some a := by
  obtain ⟨r, e⟩ := g.pre
  rw [e, List.getElem?_append_left (List.getElem?_eq_some_iff.mp h).1]
  exact h
theorem Grow.tp {K : PySem.W.Frag} {ρ ρ' : List Addr} {H H' : Hp} (g : Grow ρ H ρ' H') {a : Addr} {xs : List V} (h : Tp K H a xs) : Tp K H' a xs := by
  rcases h with ⟨o, e, h⟩ | h
  · exact .inl ⟨o, g.frz a o _ e trivial, h⟩
  · exact .inr h
theorem Grow.rl {K : PySem.W.Frag} {ρ ρ' : List Addr} {H H' : Hp} (g : Grow ρ H ρ' H') {a : Addr} {xs : List V} (h : Rol K H a xs) : Rol K H' a xs := by
  rcases h with ⟨o, e⟩ | h
  · exact .inl ⟨o, g.frz a o _ e trivial⟩
  · exact .inr h
section
variable {K : PySem.W.Frag} {ρ ρ' : List Addr} {H H' : Hp}
mutual
theorem Rep.grow (g : Grow ρ H ρ' H') : ∀ {d : D} {v : V}, Rep K ρ H d v → Rep K ρ' H' d v
  | _, _, .non => .non
  | _, _, .bl b => .bl b
  | _, _, .int i => .int i
  | _, _, .str x => .str x
  | _, _, .tup h r => .tup (g.tp h) (RepL.grow g r)
  | _, _, .rol h r => .rol (g.rl h) (RepL.grow g r)
  | _, _, .ref h => .ref (g.at_ h)
theorem RepL.grow (g : Grow ρ H ρ' H') : ∀ {ds : List D} {vs : List V}, RepL K ρ H ds vs → RepL K ρ' H' ds vs
  | _, _, .nil => .nil
  | _, _, .cons h r => .cons (Rep.grow g h) (RepL.grow g r)
end
theorem RepL.length : ∀ {ds : List D} {vs : List V}, RepL K ρ H ds vs → ds.length = vs.length
  | _, _, .nil => rfl
  | _, _, .cons _ r => congrArg (· + 1) (RepL.length r)
theorem RepL.get : ∀ {ds : List D} {vs : List V} {i : Nat} {d : D}, RepL K ρ H ds vs → ds[i]? = some d → ∃ v, vs[i]? = some v ∧ Rep K ρ H d v
  | _, _, _, _, .nil, e => by simp at e
  | _, _, 0, _, .cons h _, e => by
    simp at e
    subst e
    exact ⟨_, rfl, h⟩
  | _, _, i + 1, d, .cons _ r, e => by
    obtain ⟨v, h1, h2⟩ := RepL.get (i := i) (d := d) r (by simpa using e)
    exact ⟨v, by simpa using h1, h2⟩
theorem RepL.get' : ∀ {ds : List D} {vs : List V} {i : Nat} {v : V}, RepL K ρ H ds vs → vs[i]? = some v → ∃ d, ds[i]? = some d ∧ Rep K ρ H d v
  | _, _, _, _, .nil, e => by simp at e
  | _, _, 0, _, .cons h _, e => by
    simp at e
    subst e
    exact ⟨_, rfl, h⟩
  | _, _, i + 1, d, .cons _ r, e => by
    obtain ⟨v, h1, h2⟩ := RepL.get' (i := i) (v := d) r (by simpa using e)
    exact ⟨v, by simpa using h1, h2⟩
theorem RepL.append : ∀ {ds es : List D} {vs us : List V}, RepL K ρ H ds vs → RepL K ρ H es us → RepL K ρ H (ds ++ es) (vs ++ us)
  | _, _, _, _, .nil, s => s
  | _, _, _, _, .cons h r, s => .cons h (RepL.append r s)
theorem RepL.take : ∀ {ds : List D} {vs : List V} (n : Nat), RepL K ρ H ds vs → RepL K ρ H (ds.take n) (vs.take n)
  | _, _, 0, _ => .nil
  | _, _, _ + 1, .nil => .nil
  | _, _, n + 1, .cons h r => .cons h (RepL.take n r)
theorem RepL.drop : ∀ {ds : List D} {vs : List V} (n : Nat), RepL K ρ H ds vs → RepL K ρ H (ds.drop n) (vs.drop n)
  | _, _, 0, r => r
  | _, _, _ + 1, .nil => .nil
  | _, _, n + 1, .cons _ r => RepL.drop n r
theorem RepL.set {d : D} {v : V} (h : Rep K ρ H d v) : ∀ {ds : List D} {vs : List V} (i : Nat), RepL K ρ H ds vs → RepL K ρ H (ds.set i d) (vs.set i v)
  | _, _, _, .nil => .nil
  | _, _, 0, .cons _ r => .cons h r
  | _, _, i + 1, .cons q r => .cons q (RepL.set h i r)
theorem RepL.one {d : D} {v : V} (h : Rep K ρ H d v) : RepL K ρ H [d] [v] := .cons h .nil
theorem RepL.dropLast : ∀ {ds : List D} {vs : List V}, RepL K ρ H ds vs → RepL K ρ H ds.dropLast vs.dropLast := fun {ds vs} r => by
  rw [List.dropLast_eq_take, List.dropLast_eq_take, r.length]
  exact r.take _
theorem RepL.eraseIdx : ∀ {ds : List D} {vs : List V} (i : Nat), RepL K ρ H ds vs → RepL K ρ H (ds.eraseIdx i) (vs.eraseIdx i)
  | _, _, _, .nil => .nil
  | _, _, 0, .cons _ r => r
  | _, _, i + 1, .cons q r => .cons q (RepL.eraseIdx i r)
theorem RepL.reverse : ∀ {ds : List D} {vs : List V}, RepL K ρ H ds vs → RepL K ρ H ds.reverse vs.reverse
  | _, _, .nil => .nil
  | _, _, .cons h r => by
    rw [List.reverse_cons, List.reverse_cons]
    exact (RepL.reverse r).append (.one h)
theorem RepL.rep {ds : List D} {vs : List V} (h : RepL K ρ H ds vs) : ∀ k : Nat, RepL K ρ H (List.replicate k ds).flatten (List.replicate k vs).flatten
  | 0 => .nil
  | k + 1 => by
    rw [List.replicate_succ, List.replicate_succ, List.flatten_cons, List.flatten_cons]
    exact h.append (RepL.rep h k)
theorem RepL.insert {d : D} {v : V} (h : Rep K ρ H d v) {ds : List D} {vs : List V} (i : Nat) (r : RepL K ρ H ds vs) : RepL K ρ H (ds.take i ++ d :: ds.drop i) (vs.take i ++ v :: vs.drop i) :=
  (r.take i).append (.cons h (r.drop i))
end

/-! ### environments -/
inductive RepS (K : PySem.W.Frag) (ρ : List Addr) (H : Hp) : DE → St → Prop
  | nil : RepS K ρ H [] []
  | no {σ : DE} {τ : St} {o : Option V} : RepS K ρ H σ τ → RepS K ρ H (none :: σ) (o :: τ)
  | yes {d : D} {v : V} {σ : DE} {τ : St} : Rep K ρ H d v → RepS K ρ H σ τ → RepS K ρ H (some d :: σ) (some v :: τ)
section
variable {K : PySem.W.Frag} {ρ ρ' : List Addr} {H H' : Hp}
theorem RepS.grow (g : Grow ρ H ρ' H') : ∀ {σ : DE} {τ : St}, RepS K ρ H σ τ → RepS K ρ' H' σ τ
  | _, _, .nil => .nil
  | _, _, .no r => .no (RepS.grow g r)
  | _, _, .yes h r => .yes (h.grow g) (RepS.grow g r)
theorem RepS.length : ∀ {σ : DE} {τ : St}, RepS K ρ H σ τ → σ.length = τ.length
  | _, _, .nil => rfl
  | _, _, .no r => congrArg (· + 1) (RepS.length r)
  | _, _, .yes _ r => congrArg (· + 1) (RepS.length r)
theorem RepS.get : ∀ {σ : DE} {τ : St} {i : Nat} {d : D}, RepS K ρ H σ τ → σ[i]? = some (some d) → ∃ v, τ[i]? = some (some v) ∧ Rep K ρ H d v
  | _, _, _, _, .nil, e => by simp at e
  | _, _, 0, _, .no _, e => by simp at e
  | _, _, 0, _, .yes h _, e => by
    simp at e
    subst e
    exact ⟨_, rfl, h⟩
  | _, _, i + 1, d, .no r, e => by
    obtain ⟨v, h1, h2⟩ := RepS.get (i := i) (d := d) r (by simpa using e)
    exact ⟨v, by simpa using h1, h2⟩
  | _, _, i + 1, d, .yes _ r, e => by
    obtain ⟨v, h1, h2⟩ := RepS.get (i := i) (d := d) r (by simpa using e)
    exact ⟨v, by simpa using h1, h2⟩
theorem RepS.set {d : D} {v : V} (h : Rep K ρ H d v) : ∀ {σ : DE} {τ : St} (i : Nat), RepS K ρ H σ τ → RepS K ρ H (σ.set i (some d)) (τ.set i (some v))
  | _, _, _, .nil => .nil
  | _, _, 0, .no r => .yes h r
  | _, _, 0, .yes _ r => .yes h r
  | _, _, i + 1, .no r => .no (RepS.set h i r)
  | _, _, i + 1, .yes q r => .yes q (RepS.set h i r)
theorem RepS.unset {o : Option V} : ∀ {σ : DE} {τ : St} (i : Nat), RepS K ρ H σ τ → RepS K ρ H (σ.set i none) (τ.set i o)
  | _, _, _, .nil => .nil
  | _, _, 0, .no r => .no r
  | _, _, 0, .yes _ r => .no r
  | _, _, i + 1, .no r => .no (RepS.unset i r)
  | _, _, i + 1, .yes q r => .yes q (RepS.unset i r)
theorem RepS.blank : ∀ (τ : St), RepS K ρ H (List.replicate τ.length none) τ
  | [] => .nil
  | _ :: τ => .no (RepS.blank τ)
theorem RepS.start : ∀ {ds : List D} {vs : List V} (k : Nat), RepL K ρ H ds vs → RepS K ρ H (ds.map some ++ List.replicate k none) (vs.map some ++ List.replicate k none)
  | _, _, k, .nil => by
    have h := RepS.blank (K := K) (ρ := ρ) (H := H) (List.replicate k none)
    rw [List.length_replicate] at h
    exact h
  | _, _, k, .cons h r => .yes h (RepS.start k r)
end

/-! ### the world: the cells of the own heap in the abstract heap -/
def RepK (K : PySem.W.Frag) (ρ : List Addr) (H : Hp) : List (Key × D) → List (Key × V) → Prop := Paired fun p q => p.1 = q.1 ∧ Rep K ρ H p.2 q.2
def RepF (K : PySem.W.Frag) (ρ : List Addr) (H : Hp) : List (Str × D) → List (Str × V) → Prop := Paired fun p q => p.1 = q.1 ∧ Rep K ρ H p.2 q.2
def CellOk (K : PySem.W.Frag) (mg : Str → Option Value) (ρ : List Addr) (H : Hp) (a : Addr) : Cell → Prop
  | .lst ds => ∃ xs, H a = some (.lst xs) ∧ RepL K ρ H ds xs
  | .dic kvs => ∃ ks, H a = some (.dK ks) ∧ RepK K ρ H kvs ks
  | .ldic kvs => ∃ o ks, H a = some (.frz o (.dK ks)) ∧ RepK K ρ H kvs ks
  | .obj c fs => ∃ C dx xs, mg c = some (.ref C) ∧ H a = some (.ins C dx xs) ∧ RepF K ρ H fs xs
/-- the object at an address is a cell's, no tuple, no locked list -/
def celly : HO → Prop
  | .lst _ => True
  | .dK _ => True
  | .frz _ (.dK _) => True
  | .ins _ _ _ => True
  | _ => False
structure Wd (K : PySem.W.Frag) (mg : Str → Option Value) (ρ : List Addr) (dh : DH) (H : Hp) : Prop where
  len : ρ.length = dh.length
  nd : ρ.Nodup
  at_ : ∀ (i : Nat) (c : Cell) (a : Addr), dh[i]? = some c → ρ[i]? = some a → CellOk K mg ρ H a c
section
variable {K : PySem.W.Frag} {mg : Str → Option Value} {ρ ρ' : List Addr} {H H' : Hp} {dh : DH} {a : Addr} {c : Cell}
theorem CellOk.celly (h : CellOk K mg ρ H a c) : ∃ o, H a = some o ∧ celly o := by
  cases c with
  | lst ds => obtain ⟨xs, e, _⟩ := h; exact ⟨_, e, trivial⟩
  | dic kvs => obtain ⟨xs, e, _⟩ := h; exact ⟨_, e, trivial⟩
  | ldic kvs => obtain ⟨o, xs, e, _⟩ := h; exact ⟨_, e, trivial⟩
  | obj c fs => obtain ⟨C, dx, xs, _, e, _⟩ := h; exact ⟨_, e, trivial⟩
theorem RepK.grow (g : Grow ρ H ρ' H') {kvs : List (Key × D)} {ks : List (Key × V)} (r : RepK K ρ H kvs ks) : RepK K ρ' H' kvs ks := Paired.mapP r fun _ _ h => ⟨h.1, h.2.grow g⟩
theorem RepF.grow (g : Grow ρ H ρ' H') {kvs : List (Str × D)} {ks : List (Str × V)} (r : RepF K ρ H kvs ks) : RepF K ρ' H' kvs ks := Paired.mapP r fun _ _ h => ⟨h.1, h.2.grow g⟩
/-- a cell whose object is the same still -/
theorem CellOk.grow (g : Grow ρ H ρ' H') (e : H' a = H a) (h : CellOk K mg ρ H a c) : CellOk K mg ρ' H' a c := by
  cases c with
  | lst ds => obtain ⟨xs, q, r⟩ := h; exact ⟨xs, e.trans q, r.grow g⟩
  | dic kvs => obtain ⟨xs, q, r⟩ := h; exact ⟨xs, e.trans q, r.grow g⟩
  | ldic kvs => obtain ⟨o, xs, q, r⟩ := h; exact ⟨o, xs, e.trans q, r.grow g⟩
  | obj c fs => obtain ⟨C, dx, xs, m, q, r⟩ := h; exact ⟨C, dx, xs, m, e.trans q, r.grow g⟩
theorem Wd.cell (W : Wd K mg ρ dh H) {i : Nat} (h : dh[i]? = some c) : ∃ a, ρ[i]? = some a ∧ CellOk K mg ρ H a c := by
  have hl : i < ρ.length := by rw [W.len]; exact (List.getElem?_eq_some_iff.mp h).1
  exact ⟨ρ[i], List.getElem?_eq_getElem hl, W.at_ i c _ h (List.getElem?_eq_getElem hl)⟩
theorem Wd.cellAt (W : Wd K mg ρ dh H) {i : Nat} (h : dh[i]? = some c) (ha : ρ[i]? = some a) : CellOk K mg ρ H a c := W.at_ i c a h ha
theorem Wd.there (W : Wd K mg ρ dh H) (ha : a ∈ ρ) : ∃ o, H a = some o ∧ celly o := by
  obtain ⟨i, hi, e⟩ := List.getElem_of_mem ha
  have h2 : i < dh.length := by rw [← W.len]; exact hi
  have q : ρ[i]? = some a := by rw [List.getElem?_eq_getElem hi, e]
  exact (W.at_ i _ a (List.getElem?_eq_getElem h2) q).celly
theorem Wd.nin (W : Wd K mg ρ dh H) (h : H a = none) : a ∉ ρ := fun m => by
  obtain ⟨o, e, _⟩ := W.there m
  rw [h] at e
  cases e
/-- a new object that is no cell -/
theorem grow_upd {o : HO} (h : H a = none) : Grow ρ H ρ (upd H a o) :=
  ⟨⟨[], by rw [List.append_nil]⟩, fun b xs e => by rw [upd_ne (ne_of_none e h)]; exact e, fun b o u e _ => by rw [upd_ne (ne_of_none e h)]; exact e⟩
theorem Wd.side (W : Wd K mg ρ dh H) {o : HO} (h : H a = none) : Wd K mg ρ dh (upd H a o) :=
  ⟨W.len, W.nd, fun i c b hi hb => (W.at_ i c b hi hb).grow (grow_upd h) (upd_ne fun e => W.nin h (by rw [← e]; exact List.mem_of_getElem? hb))⟩
/-- a new cell -/
theorem grow_cell {o : HO} (h : H a = none) : Grow ρ H (ρ ++ [a]) (upd H a o) :=
  ⟨⟨[a], rfl⟩, fun b xs e => by rw [upd_ne (ne_of_none e h)]; exact e, fun b o u e _ => by rw [upd_ne (ne_of_none e h)]; exact e⟩
theorem Wd.new (W : Wd K mg ρ dh H) {o : HO} (h : H a = none) (k : CellOk K mg (ρ ++ [a]) (upd H a o) a c) : Wd K mg (ρ ++ [a]) (dh ++ [c]) (upd H a o) := by
  refine ⟨by rw [List.length_append, List.length_append, W.len]; rfl, ?_, fun i x b hi hb => ?_⟩
  · rw [List.nodup_append]
    exact ⟨W.nd, by simp, fun x hx y hy => by
      rw [List.mem_singleton] at hy
      subst hy
      intro e
      subst e
      exact W.nin h hx⟩
  · by_cases hl : i < dh.length
    · rw [List.getElem?_append_left hl] at hi
      rw [List.getElem?_append_left (by rw [W.len]; exact hl)] at hb
      exact (W.at_ i x b hi hb).grow (grow_cell h) (upd_ne fun e => W.nin h (by rw [← e]; exact List.mem_of_getElem? hb))
    · have hl2 : i < (dh ++ [c]).length := (List.getElem?_eq_some_iff.mp hi).1
      rw [List.length_append] at hl2
      have : i = dh.length := by simp at hl2; omega
      subst this
      rw [List.getElem?_append_right (Nat.le_refl _), Nat.sub_self] at hi
      rw [List.getElem?_append_right (by rw [W.len]; exact Nat.le_refl _), W.len, Nat.sub_self] at hb
      simp at hi hb
      subst hi
      subst hb
      exact k
/-- a cell is written -/
theorem grow_put {o u : HO} (h : H a = some u) (hc : celly u) : Grow ρ H ρ (upd H a o) :=
  ⟨⟨[], by rw [List.append_nil]⟩, fun b xs e => by
    rw [upd_ne fun q => ?_]
    · exact e
    · subst q
      rw [h] at e
      cases e
      exact hc, fun b o u e k => by
    rw [upd_ne fun q => ?_]
    · exact e
    · subst q
      rw [h] at e
      cases e
      cases u <;> first | exact hc | exact k⟩
theorem Wd.put (W : Wd K mg ρ dh H) {i : Nat} {o u : HO} (ha : ρ[i]? = some a) (h : H a = some u) (hc : celly u) (k : CellOk K mg ρ (upd H a o) a c) : Wd K mg ρ (dh.set i c) (upd H a o) := by
  refine ⟨by rw [List.length_set]; exact W.len, W.nd, fun j x b hj hb => ?_⟩
  by_cases e : i = j
  · subst e
    rw [ha] at hb
    cases hb
    rw [List.getElem?_set_self' ] at hj
    cases hd : dh[i]? with
    | none => rw [hd] at hj; cases hj
    | some z =>
      rw [hd] at hj
      cases hj
      exact k
  · rw [List.getElem?_set_ne e] at hj
    refine (W.at_ j x b hj hb).grow (grow_put h hc) (upd_ne fun q => e ?_)
    subst q
    exact nd_ix W.nd ha hb
end
end DL

/-! The data layer: what code gives (Res), readings of functions over data, names, constants, operators, comparisons, tests. -/
namespace DL
open PySem PySem.Spec L2
open PyProof.Rows hiding St

/-- an exception: its class's name, its fields -/
structure Exv where
  cls : Str
  fs : List (Str × D)
inductive Res (α : Type) where
  | ok (a : α) (h : DH)
  | exc (e : Exv) (h : DH)
  | bad
def Res.bind {α β : Type} : Res α → (α → DH → Res β) → Res β
  | .ok a h, f => f a h
  | .exc e h, _ => .exc e h
  | .bad, _ => .bad
@[simp] theorem Res.bind_ok {α β : Type} {a : α} {h : DH} {f : α → DH → Res β} : Res.bind (.ok a h) f = f a h := rfl
@[simp] theorem Res.bind_exc {α β : Type} {e : Exv} {h : DH} {f : α → DH → Res β} : Res.bind (.exc e h) f = .exc e h := rfl
@[simp] theorem Res.bind_bad {α β : Type} {f : α → DH → Res β} : Res.bind .bad f = .bad := rfl
abbrev FE := DE → DH → Res D
abbrev FT := DE → DH → Res Bool
abbrev FA := DE → DH → Res (List D)

def ExcRep (K : PySem.W.Frag) (mg : Str → Option Value) (ρ : List Addr) (H : Hp) (e : Exv) (c : Value) (o : Option Addr) : Prop :=
  ∃ C, mg e.cls = some (.ref C) ∧ c = .ref C ∧ (e.fs = [] ∨ ∃ dd xs, o = some dd ∧ H dd = some (.xd xs) ∧ RepF K ρ H e.fs xs)

/-- what is wanted behind, of a result -/
def Pst {α β : Type} (K : PySem.W.Frag) (mg : Str → Option Value) (R : List Addr → Hp → α → β → Prop) (W : WX) (τ : L2.St) (ρ : List Addr) (H : Hp) (Q : β → Hp → Prop) : Res α → Prop
  | .ok a dh => ∀ ρ' H' b, Grow ρ H ρ' H' → Wd K mg ρ' dh H' → R ρ' H' a b → Q b H'
  | .exc e dh => ∀ ρ' H' c o, Grow ρ H ρ' H' → Wd K mg ρ' dh H' → ExcRep K mg ρ' H' e c o → W c o τ H'
  | .bad => False
/-- the reading of a function over data -/
def rd {α β : Type} (K : PySem.W.Frag) (mg : Str → Option Value) (R : List Addr → Hp → α → β → Prop) (W : WX) (f : DE → DH → Res α) : L2.St → Hp → (β → Hp → Prop) → Prop :=
  fun τ H Q => ∃ σ dh ρ, Wd K mg ρ dh H ∧ RepS K ρ H σ τ ∧ Pst K mg R W τ ρ H Q (f σ dh)
abbrev rE (K : PySem.W.Frag) (mg : Str → Option Value) (W : WX) (f : FE) : TE := rd K mg (Rep K) W f
abbrev rT (K : PySem.W.Frag) (mg : Str → Option Value) (W : WX) (f : FT) : TT := rd K mg (fun _ _ a b => a = b) W f
abbrev rA (K : PySem.W.Frag) (mg : Str → Option Value) (W : WX) (f : FA) : TA := rd K mg (RepL K) W f
section
variable {α β : Type} {K : PySem.W.Frag} {mg : Str → Option Value} {R : List Addr → Hp → α → β → Prop} {W : WX} {τ : L2.St} {ρ ρ' : List Addr} {H H' : Hp} {Q Q' : β → Hp → Prop}
theorem Pst.grow {r : Res α} (g : Grow ρ H ρ' H') (p : Pst K mg R W τ ρ H Q r) : Pst K mg R W τ ρ' H' Q r := by
  cases r with
  | ok a dh => exact fun _ _ _ g' => p _ _ _ (g.trans g')
  | exc e dh => exact fun _ _ _ _ g' => p _ _ _ _ (g.trans g')
  | bad => exact p
theorem Pst.mono {r : Res α} (p : Pst K mg R W τ ρ H Q r) (h : ∀ b H', Q b H' → Q' b H') : Pst K mg R W τ ρ H Q' r := by
  cases r with
  | ok a dh => exact fun _ _ _ g' w' r' => h _ _ (p _ _ _ g' w' r')
  | exc e dh => exact p
  | bad => exact p
theorem rd.mono {f : DE → DH → Res α} (h : ∀ b H', Q b H' → Q' b H') (r : rd K mg R W f τ H Q) : rd K mg R W f τ H Q' := by
  obtain ⟨σ, dh, ρ, w, s, p⟩ := r
  exact ⟨σ, dh, ρ, w, s, p.mono h⟩
/-- one part, then the rest -/
theorem rd_bind {γ δ : Type} {R2 : List Addr → Hp → γ → δ → Prop} {P : δ → Hp → Prop} {f : DE → DH → Res α} {g : α → DE → DH → Res γ} (r : rd K mg R2 W (fun σ h => (f σ h).bind fun x h1 => g x σ h1) τ H P) :
    rd K mg R W f τ H fun b H1 => ∃ x σ dh ρ, Wd K mg ρ dh H1 ∧ RepS K ρ H1 σ τ ∧ R ρ H1 x b ∧ Pst K mg R2 W τ ρ H1 P (g x σ dh) := by
  obtain ⟨σ, dh, ρ, w, s, p⟩ := r
  refine ⟨σ, dh, ρ, w, s, ?_⟩
  cases e : f σ dh with
  | ok x h1 =>
    simp only [e, Res.bind] at p
    intro ρ1 H1 v g1 w1 rx
    exact ⟨x, σ, h1, ρ1, w1, s.grow g1, rx, p.grow g1⟩
  | exc x h1 =>
    simp only [e, Res.bind] at p
    exact p
  | bad =>
    simp only [e, Res.bind] at p
    exact p
end
section
variable {X : Cx} {e : Expr}
theorem PE.weak {t t' : TE} (h : PE X e t) (w : ∀ σ H Q, t' σ H Q → t σ H Q) : PE X e t' := ⟨fun pins s σ H Q I q => h.run pins s σ H Q I (w σ H Q q)⟩
theorem PT.weak {t t' : TT} (h : PT X e t) (w : ∀ σ H Q, t' σ H Q → t σ H Q) : PT X e t' := ⟨fun pins s σ H Q I q => h.run pins s σ H Q I (w σ H Q q)⟩
theorem PW.weak {t t' : TT} (h : PW X e t) (w : ∀ σ H Q, t' σ H Q → t σ H Q) : PW X e t' := ⟨fun wh pins s σ H Q I q => h.run wh pins s σ H Q I (w σ H Q q)⟩
theorem PA.weak {es : List Expr} {t t' : TA} (h : PA X es t) (w : ∀ σ H Q, t' σ H Q → t σ H Q) : PA X es t' := ⟨fun pos pins s σ H Q I q => h.run pos pins s σ H Q I (w σ H Q q)⟩
theorem PS.weak {st : Stmt} {t t' : TS} (h : PS X st t) (w : ∀ D σ H, t' D σ H → t D σ H) : PS X st t' := ⟨fun pins s σ H D I q => h.run pins s σ H D I (w D σ H q)⟩
theorem PSs.weak {st : List Stmt} {t t' : TS} (h : PSs X st t) (w : ∀ D σ H, t' D σ H → t D σ H) : PSs X st t' := ⟨fun pins s σ H D I q => h.run pins s σ H D I (w D σ H q)⟩
end

/-! ### names, constants -/
def getS (σ : DE) (i : Nat) : Option D := match σ[i]? with
  | some (some d) => some d
  | _ => none
@[simp] theorem getS_zero {o : Option D} {σ : DE} : getS (o :: σ) 0 = o := by
  unfold getS
  cases o <;> rfl
@[simp] theorem getS_succ {o : Option D} {σ : DE} {i : Nat} : getS (o :: σ) (i + 1) = getS σ i := by
  unfold getS
  rw [List.getElem?_cons_succ]
def dVar (i : Nat) : FE := fun σ h => match getS σ i with
  | some d => .ok d h
  | none => .bad
def dC (d : D) : FE := fun _ h => .ok d h
def dBad {α : Type} : DE → DH → Res α := fun _ _ => .bad
section
variable {X : Cx} {W : WX} {K : PySem.W.Frag} {mg : Str → Option Value}
theorem rd_var {i : Nat} {τ : L2.St} {H : Hp} {Q : VK} (r : rE K mg W (dVar i) τ H Q) : tVar i τ H Q := by
  obtain ⟨σ, dh, ρ, w, s, p⟩ := r
  unfold dVar getS at p
  cases e : σ[i]? with
  | none => simp only [e] at p; exact p.elim
  | some o =>
    cases o with
    | none => simp only [e] at p; exact p.elim
    | some d =>
      simp only [e] at p
      obtain ⟨v, h1, h2⟩ := s.get e
      exact ⟨v, h1, p _ _ _ (Grow.refl _ _) w h2⟩
theorem de_var {x : Str} {pos : Pos} (i : Nat) (hN : X.N[i]? = some x := by rfl) (hv : Vis X.env.scope x := by first | exact Or.inl rfl | exact Or.inr (Or.inl rfl) | exact Or.inr (Or.inr rfl)) (hd : (x == ("__debug__" : Str)) = false := by decide)
    (hcd : (x == ("__classdict__" : Str)) = false := by decide) : PE X (.Name x pos) (rE X.K X.mg W (dVar i)) := PE.weak (pe_var hN hv hd hcd) fun _ _ _ r => rd_var r
/-- a constant that lies at no address -/
def absD : D → Option V
  | .non => some .non
  | .bl b => some (.bl b)
  | .int i => some (.int i)
  | .str x => some (.str x)
  | _ => none
theorem absD_rep {d : D} {v : V} (h : absD d = some v) (ρ : List Addr) (H : Hp) : Rep K ρ H d v := by
  cases d <;> simp only [absD] at h <;> first | (cases h; constructor) | cases h
theorem rd_c {d : D} {v : V} {τ : L2.St} {H : Hp} {Q : VK} (hv : absD d = some v) (r : rE K mg W (dC d) τ H Q) : tC v τ H Q := by
  obtain ⟨σ, dh, ρ, w, s, p⟩ := r
  exact p _ _ _ (Grow.refl _ _) w (absD_rep hv _ _)
theorem de_int {i j pos} : PE X (.Constant (.int i) j pos) (rE X.K X.mg W (dC (.int i))) := PE.weak pe_int fun _ _ _ r => rd_c rfl r
theorem de_bl {b j pos} : PE X (.Constant (.bool b) j pos) (rE X.K X.mg W (dC (.bl b))) := PE.weak pe_bl fun _ _ _ r => rd_c rfl r
theorem de_non {j pos} : PE X (.Constant .none j pos) (rE X.K X.mg W (dC .non)) := PE.weak pe_non fun _ _ _ r => rd_c rfl r
theorem de_str {x j pos} : PE X (.Constant (.str x) j pos) (rE X.K X.mg W (dC (.str x))) := PE.weak pe_str fun _ _ _ r => rd_c rfl r
/-- a module's constant -/
theorem de_glob {x : Str} {d : D} {v : V} {u : Value} {pos : Pos} (hv : absD d = some v) (hm : X.mg x = some u) (r : RelV v u) (hg : Gl X x := by rfl) (hd : (x == ("__debug__" : Str)) = false := by decide) : PE X (.Name x pos) (rE X.K X.mg W (dC d)) :=
  PE.weak (pe_glob hg hm r hd) fun _ _ _ r => rd_c hv r
/-- code that is never come to -/
theorem de_never {e : Expr} : PE X e (rE X.K X.mg W dBad) := ⟨fun _ _ _ _ _ _ ⟨_, _, _, _, _, p⟩ => p.elim⟩
theorem dt_never {e : Expr} : PT X e (rT X.K X.mg W dBad) := ⟨fun _ _ _ _ _ _ ⟨_, _, _, _, _, p⟩ => p.elim⟩
end

/-! ### operators -/
def dBin (op : D → D → DH → Res D) (fa fb : FE) : FE := fun σ h => (fa σ h).bind fun x h1 => (fb σ h1).bind fun y h2 => op x y h2
def dUn (op : D → DH → Res D) (fa : FE) : FE := fun σ h => (fa σ h).bind fun x h1 => op x h1
/-- an operation on values serves one on data -/
def OpS (K : PySem.W.Frag) (mg : Str → Option Value) (r : R2) (op : D → D → DH → Res D) : Prop :=
  ∀ (ρ : List Addr) (dh : DH) (H : Hp) (x y : D) (v u : V) (Q : VK) (W : WX) (τ : L2.St), Wd K mg ρ dh H → Rep K ρ H x v → Rep K ρ H y u → Pst K mg (Rep K) W τ ρ H Q (op x y dh) → r v u H Q
section
variable {X : Cx} {W : WX} {K : PySem.W.Frag} {mg : Str → Option Value} {τ : L2.St} {H : Hp} {Q : VK}
theorem rd_two {fa fb : FE} {op : D → D → DH → Res D} {r : R2} (ho : OpS K mg r op) (h : rE K mg W (dBin op fa fb) τ H Q) : tOp r (rE K mg W fa) (rE K mg W fb) τ H Q := by
  obtain ⟨σ, dh, ρ, w, s, p⟩ := h
  refine ⟨σ, dh, ρ, w, s, ?_⟩
  unfold dBin at p
  cases e : fa σ dh with
  | ok x h1 =>
    simp only [e, Res.bind] at p
    intro ρ1 H1 v g1 w1 rx
    refine ⟨σ, h1, ρ1, w1, s.grow g1, ?_⟩
    cases e2 : fb σ h1 with
    | ok y h2 =>
      simp only [e2, Res.bind] at p
      intro ρ2 H2 u g2 w2 ry
      exact ho ρ2 h2 H2 x y v u Q W τ w2 (rx.grow g2) ry (p.grow (g1.trans g2))
    | exc ex h2 =>
      simp only [e2, Res.bind] at p
      intro ρ2 H2 c o g2 w2 re
      exact p _ _ _ _ (g1.trans g2) w2 re
    | bad =>
      simp only [e2, Res.bind] at p
      exact p
  | exc ex h1 =>
    simp only [e, Res.bind] at p
    exact p
  | bad =>
    simp only [e, Res.bind] at p
    exact p
theorem rd_one {fa : FE} {op : D → DH → Res D} {r : V → Hp → VK → Prop}
    (ho : ∀ (ρ : List Addr) (dh : DH) (H : Hp) (x : D) (v : V) (Q : VK) (W : WX) (τ : L2.St), Wd K mg ρ dh H → Rep K ρ H x v → Pst K mg (Rep K) W τ ρ H Q (op x dh) → r v H Q) (h : rE K mg W (dUn op fa) τ H Q) :
    rE K mg W fa τ H fun v H1 => r v H1 Q := by
  refine rd.mono (fun b H' => ?_) (rd_bind (R := Rep K) (g := fun x σ h1 => op x h1) h)
  rintro ⟨x, σ, dh, ρ, w, s, rx, p⟩
  exact ho ρ dh H' x b Q W τ w rx p
theorem de_op {op : Operator} {r : R2} {dop : D → D → DH → Res D} {a b : Expr} {fa fb : FE} {pos : Pos} (ho : OpR X (binaryOp op) r) (hs : OpS X.K X.mg r dop) (ha : PE X a (rE X.K X.mg W fa)) (hb : PE X b (rE X.K X.mg W fb)) :
    PE X (.BinOp a op b pos) (rE X.K X.mg W (dBin dop fa fb)) := PE.weak (pe_op ho ha hb) fun _ _ _ h => rd_two hs h
theorem de_cmp {op : CmpOp} {r : R2} {dop : D → D → DH → Res D} {a b : Expr} {fa fb : FE} {pos : Pos} (ho : OpR X (compareOp op) r) (hs : OpS X.K X.mg r dop) (ha : PE X a (rE X.K X.mg W fa)) (hb : PE X b (rE X.K X.mg W fb)) (hm : behindInMarks op b = false := by first | exact nobehind _ (by decide) (by decide) | rfl | with_unfolding_all rfl) :
    PE X (.Compare a [op] [b] pos) (rE X.K X.mg W (dBin dop fa fb)) := PE.weak (pe_cmpR ho ha hb hm) fun _ _ _ h => rd_two hs h
end
/-- the value of an expression that is True or False -/
def dTest (f : FE) : FT := fun σ h => (f σ h).bind fun x h1 => match x with
  | .bl b => .ok b h1
  | _ => .bad
section
variable {X : Cx} {W : WX} {K : PySem.W.Frag} {mg : Str → Option Value} {τ : L2.St} {H : Hp}
theorem rd_test {f : FE} {Q : Bool → Hp → Prop} (h : rT K mg W (dTest f) τ H Q) : tB (rE K mg W f) τ H Q := by
  refine rd.mono (fun b H' => ?_) (rd_bind (R := Rep K) (g := fun x σ h1 => match x with | .bl b => .ok b h1 | _ => .bad) h)
  rintro ⟨x, σ, dh, ρ, w, s, rx, p⟩
  cases rx <;> first | exact p.elim | skip
  rename_i k
  exact ⟨k, rfl, p _ _ _ (Grow.refl _ _) w rfl⟩
/-- a comparison, a call ..: its value is True or False -/
theorem dt_val {e : Expr} {f : FE} (h : PE X e (rE X.K X.mg W f)) (he : ∀ whole, isTrue e X.env whole = (do let v ← whole; standAt e.pos; holding [v] (truthy v)) := by intro _; rfl) : PT X e (rT X.K X.mg W (dTest f)) :=
  PT.weak (pt_val h he) fun _ _ _ r => rd_test r
end
end DL

/-! The data layer: operators by data. -/
namespace DL
open PySem PySem.Spec L2
open PyProof.Rows hiding St

section
variable {K : PySem.W.Frag} {mg : Str → Option Value} {W : WX} {τ : L2.St} {ρ : List Addr} {H : Hp} {dh : DH} {Q : VK} {ds : List D} {xs : List V}
theorem size_lim {n : Nat} (h : n ≤ 16777216) : n ≤ sizeLine := by rw [sizeLine_eq]; exact h
theorem size_lt {n : Nat} (h : n < 16777216) : n < sizeLine := by rw [sizeLine_eq]; exact h
theorem new_at (w : Wd K mg ρ dh H) (a : Addr) : (ρ ++ [a])[dh.length]? = some a := by
  rw [← w.len, List.getElem?_append_right (Nat.le_refl _), Nat.sub_self]
  rfl
theorem new_cell (w : Wd K mg ρ dh H) {c : Cell} {o : HO} (p : Pst K mg (Rep K) W τ ρ H Q (.ok (.ref dh.length) (dh ++ [c]))) (k : ∀ a, H a = none → CellOk K mg (ρ ++ [a]) (upd H a o) a c) : ∀ a, H a = none → Q (.ref a) (upd H a o) :=
  fun a ha => p _ _ _ (grow_cell ha) (w.new ha (k a ha)) (.ref (new_at w a))
theorem new_lst (w : Wd K mg ρ dh H) (r : RepL K ρ H ds xs) (p : Pst K mg (Rep K) W τ ρ H Q (.ok (.ref dh.length) (dh ++ [.lst ds]))) : ∀ a, H a = none → Q (.ref a) (upd H a (.lst xs)) :=
  new_cell w p fun a ha => ⟨xs, upd_same, r.grow (grow_cell ha)⟩
/-- a new tuple, known to its object -/
abbrev NewT (H : Hp) (Q : VK) (xs : List V) : Prop := ∀ a o, H a = none → o.cls = .type "tuple" → o.dict = none → Q (.ref a) (upd H a (.frz o (.tup xs)))
theorem new_tup (w : Wd K mg ρ dh H) (r : RepL K ρ H ds xs) (p : Pst K mg (Rep K) W τ ρ H Q (.ok (.tup ds) dh)) : NewT H Q xs :=
  fun a o ha hc hd => p _ _ _ (grow_upd ha) (w.side ha) (.tup (.inl ⟨o, upd_same, hc, hd⟩) (r.grow (grow_upd ha)))
/-- a value as it stands -/
theorem same_val (w : Wd K mg ρ dh H) {d : D} {v : V} (r : Rep K ρ H d v) (p : Pst K mg (Rep K) W τ ρ H Q (.ok d dh)) : Q v H := p _ _ _ (Grow.refl _ _) w r
/-- a cell is written -/
theorem put_cell (w : Wd K mg ρ dh H) {n : Nat} {a : Addr} {c : Cell} {o u : HO} {d : D} {v : V} (ha : ρ[n]? = some a) (hu : H a = some u) (hc : celly u) (k : CellOk K mg ρ (upd H a o) a c) (r : Rep K ρ H d v)
    (p : Pst K mg (Rep K) W τ ρ H Q (.ok d (dh.set n c))) : Q v (upd H a o) := p _ _ _ (grow_put hu hc) (w.put ha hu hc k) (r.grow (grow_put hu hc))
theorem put_lst (w : Wd K mg ρ dh H) {n : Nat} {a : Addr} {es : List D} {ys : List V} {d : D} {v : V} (ha : ρ[n]? = some a) (hu : H a = some (.lst ys)) (rl : RepL K ρ H ds xs) (r : Rep K ρ H d v)
    (p : Pst K mg (Rep K) W τ ρ H Q (.ok d (dh.set n (.lst ds)))) : Q v (upd H a (.lst xs)) :=
  put_cell (c := .lst ds) w ha hu trivial ⟨xs, upd_same, rl.grow (grow_put hu trivial)⟩ r p
theorem cell_lst (w : Wd K mg ρ dh H) {n : Nat} {a : Addr} (hn : dh[n]? = some (.lst ds)) (ha : ρ[n]? = some a) : ∃ xs, H a = some (.lst xs) ∧ RepL K ρ H ds xs := w.cellAt hn ha
end

/-! ### tuples made: the object is told -/
theorem _root_.L2.Inv.tupNew {X : Cx} {pins : List (Addr × Obj)} {σ : L2.St} {H : Hp} {s : Shared} {xs : List V} {its : List Value} {t' : Nat} (I : Inv X pins σ H s) (r : Vals xs its) (z : xs.length ≤ sizeLine) :
    Inv X pins σ (upd H s.heap.objs.size (.frz { cls := .type "tuple", data := .seq its.toArray } (.tup xs))) { s with heap := s.heap.push { cls := .type "tuple", data := .seq its.toArray }, toks := t' } :=
  I.laid (fun b u e => Heap.get?_push_of_some _ e) (Nat.le_refl _) (show ObjOk X.prog X.w _ _ _ (.frz _ (.tup xs)) from ⟨Heap.get?_push_size _ rfl, z, its, r, IsTup.new _ _⟩)
section
variable {X : Cx}
/-- (a, b, ..) -/
def tTupX (t : TA) : TE := fun σ H Q => t σ H fun xs H1 => xs.length ≤ sizeLine ∧ NewT H1 Q xs
theorem pe_tupX {es : List Expr} {t : TA} {x1} {pos : Pos} (h : PA X es t) : PE X (.Tuple es x1 pos) (tTupX t) :=
  ⟨fun pins s σ H Q I hq => wpAny_Tuple_spliced (thn (h.run pos pins s σ H _ I hq) fun us s1 ⟨xs, H1, I1, r, z, q⟩ => ⟨by rw [← r.length]; exact z, .ref s1.heap.objs.size, _, I1.tupNew (t' := s1.toks) r z, rfl, q _ _ (I1.hok.fresh (Nat.le_refl _)) rfl rfl⟩)⟩
/-- t + u -/
def rCatX (K : PySem.W.Frag) : R2 := fun x y H Q => ∃ a b xs ys, x = .ref a ∧ y = .ref b ∧ SqT K H a xs ∧ SqT K H b ys ∧ xs.length + ys.length ≤ sizeLine ∧ (xs = [] → Q (.ref b) H) ∧ (xs ≠ [] → ys = [] → Q (.ref a) H) ∧ (xs ≠ [] → ys ≠ [] → NewT H Q (xs ++ ys))
theorem op_catX : OpR X (binaryOp .Add) (rCatX X.K) := by
  intro pins s σ H x y v u Q I rx ry ⟨a, b, xs, ys, e1, e2, ha, hb, hz, q0, q1, q2⟩
  subst e1 e2
  cases rx
  cases ry
  obtain ⟨its, r1, p1, _⟩ := I.tuple ha
  obtain ⟨its2, r2, p2, _⟩ := I.tuple hb
  by_cases hx : xs = []
  · subst hx
    cases r1
    exact cat_tup0 p1 p2 ⟨.ref b, H, I, rfl, q0 rfl⟩
  · have hv : its ≠ [] := fun e => by
      subst e
      cases r1
      exact hx rfl
    refine HT.cat_tup p1 p2 hv (fun e => ?_) (fun e => ?_) (by rw [← r1.length, ← r2.length]; exact hz)
    · subst e
      cases r2
      exact ⟨.ref a, H, I, rfl, q1 hx rfl⟩
    · have hy : ys ≠ [] := fun z => by
        subst z
        cases r2
        exact e rfl
      exact ⟨.ref s.heap.objs.size, _, I.tupNew (t' := s.toks) (r1.append r2) (by rw [List.length_append]; exact hz), rfl, q2 hx hy _ _ (I.hok.fresh (Nat.le_refl _)) rfl rfl⟩
/-- t[lo:hi] -/
def rSlX (K : PySem.W.Frag) : V → Option Int → Option Int → Hp → VK → Prop := fun x lo hi H Q => ∃ a xs, x = .ref a ∧ SqT K H a xs ∧ (cutV xs lo hi = xs → Q (.ref a) H) ∧ NewT H Q (cutV xs lo hi)
theorem cutV_whole {xs : List V} {lo hi : Option Int} (h : HT.sIx xs.length 0 lo = 0 ∧ HT.sIx xs.length xs.length hi = xs.length) : cutV xs lo hi = xs := by
  unfold cutV
  rw [h.1, h.2, List.drop_zero, Nat.sub_zero, List.take_length]
theorem sl_tupX : SlR X (rSlX X.K) := by
  intro pins s σ H x v vl vu lo hi sl Q I rx hs pl pu ⟨a, xs, e, hx, q1, q2⟩
  subst e
  cases rx
  obtain ⟨its, r, ht, hz⟩ := I.tuple hx
  have hlen : its.toArray.size = xs.length := by rw [List.size_toArray]; exact r.length.symm
  refine ⟨"tuple", _, PyProof.Rows.slot_tuple_getitem.lookup, ht.typeIs, ?_⟩
  by_cases hw : HT.sIx xs.length 0 lo = 0 ∧ HT.sIx xs.length xs.length hi = xs.length
  · exact getItem_tuple_whole ht hs pl pu (by rw [hlen]; exact hw) ⟨.ref a, H, I, rfl, q1 (cutV_whole hw)⟩
  · refine HT.getItem_tuple_cut ht hs pl pu (by rw [hlen]; exact hw) ?_ (by rw [hlen]; exact hz)
    rw [hlen]
    exact ⟨.ref s.heap.objs.size, _, I.tupNew (t' := s.toks) (xs := cutV xs lo hi) ((r.drop (HT.sIx xs.length 0 lo)).take (HT.sIx xs.length xs.length hi - HT.sIx xs.length 0 lo)) (Nat.le_trans (cutV_length xs lo hi) hz), rfl, q2 _ _ (I.hok.fresh (Nat.le_refl _)) rfl rfl⟩
/-- tuple(x) of a list, of a tuple -/
theorem call_tupX : CallR X (.type "tuple") (fun xs H Q => ∃ p ys, xs = [.ref p] ∧ ((SqL X.K H p ys ∧ NewT H Q ys) ∨ (SqT X.K H p ys ∧ Q (.ref p) H))) := by
  intro pins s σ H xs us Q I r ⟨p, ys, e, h⟩
  subst e
  obtain ⟨u, e, rx⟩ := vals1 r
  subst e
  cases rx
  rcases h with ⟨hq, q⟩ | ⟨hq, q⟩
  · obtain ⟨its, r', pl, hz⟩ := I.list hq
    have hlen := r'.length
    refine call_tuple_list pl.isList (fun h' kp => ?_) (by simp only [List.size_toArray] <;> omega)
    have I1 : Inv X pins σ H { s with heap := h' } := I.kept (t' := s.toks) kp
    exact ⟨.ref h'.objs.size, _, I1.tupNew (t' := s.toks) r' hz, rfl, q _ _ (I1.hok.fresh (Nat.le_refl _)) rfl rfl⟩
  · obtain ⟨its, r', pl, hz⟩ := I.tuple hq
    exact call_tuple_same pl ⟨.ref p, H, I, rfl, q⟩
end

/-! ### + -/
def oAdd : D → D → DH → Res D
  | .int i, .int j, h => .ok (.int (i + j)) h
  | .str x, .str y, h => if x.length + y.length ≤ 16777216 then .ok (.str (x ++ y)) h else .bad
  | .tup a, .tup b, h => if a.length + b.length ≤ 16777216 then .ok (.tup (a ++ b)) h else .bad
  | .ref m, .ref n, h => match h[m]?, h[n]? with
    | some (.lst a), some (.lst b) => if a.length + b.length ≤ 16777216 then .ok (.ref h.length) (h ++ [.lst (a ++ b)]) else .bad
    | _, _ => .bad
  | _, _, _ => .bad
def rAddX (K : PySem.W.Frag) : R2 := fun x y H Q => (rI0 (fun i j => .int (i + j)) x y H Q ∨ (∃ i j, x = .str i ∧ y = .str j ∧ i.length + j.length ≤ sizeLine ∧ Q (.str (i ++ j)) H)) ∨ (rCatX K x y H Q ∨ rCat x y H Q)
theorem op_addX {X : Cx} : OpR X (binaryOp .Add) (rAddX X.K) := OpR.or (OpR.or op_add op_add_str) (OpR.or op_catX op_cat)
theorem os_add {K : PySem.W.Frag} {mg : Str → Option Value} : OpS K mg (rAddX K) oAdd := by
  intro ρ dh H x y v u Q W τ w rx ry p
  cases rx with
  | int i =>
    cases ry <;> first | exact p.elim | skip
    exact .inl (.inl ⟨_, _, rfl, rfl, same_val w (.int _) p⟩)
  | str i =>
    cases ry <;> first | exact p.elim | skip
    rename_i j
    simp only [oAdd] at p
    split at p
    · rename_i hl
      exact .inl (.inr ⟨_, _, rfl, rfl, size_lim hl, same_val w (.str _) p⟩)
    · exact p.elim
  | @tup ds a xs ta ra =>
    cases ry <;> first | exact p.elim | skip
    rename_i es b ys tb rb
    simp only [oAdd] at p
    split at p
    · rename_i hl
      refine .inr (.inl ⟨_, _, xs, ys, rfl, rfl, ta.sq, tb.sq, size_lim (by rw [← ra.length, ← rb.length]; exact hl), fun e => ?_, fun _ e => ?_, fun _ _ => new_tup w (ra.append rb) p⟩)
      · subst e
        cases ra
        exact same_val w (.tup tb rb) p
      · subst e
        cases rb
        rw [List.append_nil] at p
        exact same_val w (.tup ta ra) p
    · exact p.elim
  | @ref m a ha =>
    cases ry <;> first | exact p.elim | skip
    rename_i n b hb
    simp only [oAdd] at p
    split at p
    · rename_i ds es e1 e2
      split at p
      · rename_i hl
        obtain ⟨xs, h1, r1⟩ := cell_lst w e1 ha
        obtain ⟨ys, h2, r2⟩ := cell_lst w e2 hb
        exact .inr (.inr ⟨_, _, xs, ys, rfl, rfl, h1, h2, size_lim (by rw [← r1.length, ← r2.length]; exact hl), new_lst w (r1.append r2) p⟩)
      · exact p.elim
    · exact p.elim
  | _ => cases ry <;> exact p.elim

/-! ### ints -/
def oInt (c : Int → Int → Bool) (g : Int → Int → Int) : D → D → DH → Res D
  | .int i, .int j, h => if c i j = true then .ok (.int (g i j)) h else .bad
  | _, _, _ => .bad
theorem os_int {K : PySem.W.Frag} {mg : Str → Option Value} {C : Int → Int → Prop} {c : Int → Int → Bool} {g : Int → Int → Int} (hc : ∀ i j, c i j = true → C i j) : OpS K mg (rI C fun i j => .int (g i j)) (oInt c g) := by
  intro ρ dh H x y v u Q W τ w rx ry p
  cases rx <;> first | (cases ry <;> exact p.elim) | skip
  cases ry <;> first | exact p.elim | skip
  simp only [oInt] at p
  split at p
  · rename_i e
    exact ⟨_, _, rfl, rfl, hc _ _ e, same_val w (.int _) p⟩
  · exact p.elim
def oInt0 (g : Int → Int → Int) : D → D → DH → Res D
  | .int i, .int j, h => .ok (.int (g i j)) h
  | _, _, _ => .bad
theorem os_int0 {K : PySem.W.Frag} {mg : Str → Option Value} {g : Int → Int → Int} : OpS K mg (rI0 fun i j => .int (g i j)) (oInt0 g) := by
  intro ρ dh H x y v u Q W τ w rx ry p
  cases rx <;> first | (cases ry <;> exact p.elim) | skip
  cases ry <;> first | exact p.elim | skip
  exact ⟨_, _, rfl, rfl, same_val w (.int _) p⟩
abbrev oSub := oInt0 fun i j => i - j
abbrev oAnd := oInt0 Builtin.bitAnd
abbrev oOr := oInt0 Builtin.bitOr
abbrev oXor := oInt0 Builtin.bitXor
def cDiv (_ j : Int) : Bool := decide (0 < j ∧ j.natAbs.log2 < 9000)
def cMod (_ j : Int) : Bool := decide (0 < j)
def cPow (i j : Int) : Bool := decide (0 ≤ j ∧ j ≤ 1000000 ∧ i.natAbs < 2 ^ 64)
def cShr (_ j : Int) : Bool := decide (0 ≤ j)
def cMul (i j : Int) : Bool := decide ((-(2 ^ 64) < i ∧ i < 2 ^ 64) ∨ (-(2 ^ 64) < j ∧ j < 2 ^ 64))
abbrev oDiv := oInt cDiv fun i j => i / j
abbrev oMod := oInt cMod fun i j => i % j
abbrev oPow := oInt cPow fun i j => i ^ j.toNat
abbrev oShl := oInt cPow fun i j => i * 2 ^ j.toNat
abbrev oShr := oInt cShr fun i j => i / 2 ^ j.toNat
section
variable {K : PySem.W.Frag} {mg : Str → Option Value}
theorem os_sub : OpS K mg (rI0 fun i j => .int (i - j)) oSub := os_int0
theorem os_and : OpS K mg (rI0 fun i j => .int (Builtin.bitAnd i j)) oAnd := os_int0
theorem os_or : OpS K mg (rI0 fun i j => .int (Builtin.bitOr i j)) oOr := os_int0
theorem os_xor : OpS K mg (rI0 fun i j => .int (Builtin.bitXor i j)) oXor := os_int0
theorem os_div : OpS K mg (rI CDivW fun i j => .int (i / j)) oDiv := os_int fun i j h => by
  have q : 0 < j ∧ j.natAbs.log2 < 9000 := of_decide_eq_true h
  exact q
theorem os_mod : OpS K mg (rI (fun _ j => 0 < j) fun i j => .int (i % j)) oMod := os_int fun _ _ h => of_decide_eq_true h
theorem os_pow : OpS K mg (rI CPow fun i j => .int (i ^ j.toNat)) oPow := os_int fun i j h => by
  have q : 0 ≤ j ∧ j ≤ 1000000 ∧ i.natAbs < 2 ^ 64 := of_decide_eq_true h
  exact q
theorem os_shl : OpS K mg (rI CPow fun i j => .int (i * 2 ^ j.toNat)) oShl := os_int fun i j h => by
  have q : 0 ≤ j ∧ j ≤ 1000000 ∧ i.natAbs < 2 ^ 64 := of_decide_eq_true h
  exact q
theorem os_shr : OpS K mg (rI (fun _ j => 0 ≤ j) fun i j => .int (i / 2 ^ j.toNat)) oShr := os_int fun _ _ h => of_decide_eq_true h
end
/-! ### *: ints, a list times an int -/
def oMul : D → D → DH → Res D
  | .int i, .int j, h => if cMul i j = true then .ok (.int (i * j)) h else .bad
  | .ref n, .int k, h => match h[n]? with
    | some (.lst a) => if -(2 ^ 62) ≤ k ∧ k < 2 ^ 62 ∧ a.length * k.toNat ≤ 16777216 then .ok (.ref h.length) (h ++ [.lst (List.replicate k.toNat a).flatten]) else .bad
    | _ => .bad
  | _, _, _ => .bad
def rMulX : R2 := fun x y H Q => rI CMul (fun i j => .int (i * j)) x y H Q ∨ rRep x y H Q
theorem op_mulX {X : Cx} : OpR X (binaryOp .Mult) rMulX := OpR.or op_mul op_rep
theorem os_mul {K : PySem.W.Frag} {mg : Str → Option Value} : OpS K mg rMulX oMul := by
  intro ρ dh H x y v u Q W τ w rx ry p
  cases rx with
  | int i =>
    cases ry <;> first | exact p.elim | skip
    simp only [oMul] at p
    split at p
    · rename_i e
      rename_i j
      have q : (-(2 ^ 64) < i ∧ i < 2 ^ 64) ∨ (-(2 ^ 64) < j ∧ j < 2 ^ 64) := of_decide_eq_true e
      exact .inl ⟨_, _, rfl, rfl, q, same_val w (.int _) p⟩
    · exact p.elim
  | @ref m a ha =>
    cases ry <;> first | exact p.elim | skip
    rename_i k
    simp only [oMul] at p
    split at p
    · rename_i ds e1
      split at p
      · rename_i hl
        obtain ⟨h1, h2, h3⟩ := hl
        obtain ⟨xs, hx, r1⟩ := cell_lst w e1 ha
        refine .inr ⟨_, k, xs, rfl, rfl, hx, by omega, by omega, size_lim (by rw [← r1.length]; exact h3), new_lst w (r1.rep k.toNat) p⟩
      · exact p.elim
    · exact p.elim
  | _ => cases ry <;> exact p.elim
/-! ### one-place -/
def oNeg : D → DH → Res D
  | .int i, h => .ok (.int (-i)) h
  | _, _ => .bad
theorem de_neg {X : Cx} {W : WX} {a : Expr} {fa : FE} {pos : Pos} (ha : PE X a (rE X.K X.mg W fa)) : PE X (.UnaryOp .USub a pos) (rE X.K X.mg W (dUn oNeg fa)) :=
  PE.weak (pe_un un_neg ha) fun _ _ _ h => rd_one (r := rU fun i => .int (-i)) (fun ρ dh H x v Q W τ w rx p => by
    cases rx <;> first | exact p.elim | skip
    exact ⟨_, rfl, same_val w (.int _) p⟩) h

/-! ### order -/
def oOrd (g : Int → Int → Bool) : D → D → DH → Res D
  | .int i, .int j, h => .ok (.bl (g i j)) h
  | _, _, _ => .bad
theorem os_ord {K : PySem.W.Frag} {mg : Str → Option Value} {g : Int → Int → Bool} : OpS K mg (rI0 fun i j => .bl (g i j)) (oOrd g) := by
  intro ρ dh H x y v u Q W τ w rx ry p
  cases rx <;> first | (cases ry <;> exact p.elim) | skip
  cases ry <;> first | exact p.elim | skip
  exact ⟨_, _, rfl, rfl, same_val w (.bl _) p⟩
abbrev oLt := oOrd fun i j => decide (i < j)
abbrev oLe := oOrd fun i j => decide (i ≤ j)
abbrev oGt := oOrd fun i j => decide (j < i)
abbrev oGe := oOrd fun i j => decide (j ≤ i)

/-! ### is None, is True -/
def oIsN : D → D → DH → Res D
  | .non, .non, h => .ok (.bl true) h
  | _, .non, h => .ok (.bl false) h
  | .bl a, .bl b, h => .ok (.bl (decide (a = b))) h
  | _, .bl b, h => .ok (.bl false) h
  | _, _, _ => .bad
def oNotN : D → D → DH → Res D
  | .non, .non, h => .ok (.bl false) h
  | _, .non, h => .ok (.bl true) h
  | .bl a, .bl b, h => .ok (.bl (!decide (a = b))) h
  | _, .bl b, h => .ok (.bl true) h
  | _, _, _ => .bad
def rIsX : R2 := fun x y H Q => (y = .non ∧ Q (.bl (decide (x = .non))) H) ∨ (∃ b, y = .bl b ∧ Q (.bl (decide (x = .bl b))) H)
def rNotX : R2 := fun x y H Q => (y = .non ∧ Q (.bl (!decide (x = .non))) H) ∨ (∃ b, y = .bl b ∧ Q (.bl (!decide (x = .bl b))) H)
theorem isSame_bl {M : Model} {A : Around} {E : Value → Shared → Prop} {s : Shared} {v : Value} {b : Bool} {Q : Bool → Shared → Prop} (hv : ∀ n, v ≠ .builtin n) (h : Q (v == .bool b) s) : wpAny M A (isSame v (.bool b)) Q E s := by
  cases v <;> first | exact wpAny_pure h | exact absurd rfl (hv _)
theorem relV_bl {x : V} {v : Value} (r : RelV x v) (b : Bool) : (v == Value.bool b) = decide (x = .bl b) := by
  cases x <;> first
    | (cases r; first | rfl | (rename_i c; cases b <;> cases c <;> rfl))
    | (obtain ⟨t, rfl⟩ := r; rfl)
theorem relV_nobi {x : V} {v : Value} (r : RelV x v) : ∀ n, v ≠ .builtin n := by
  intro n e
  subst e
  cases x <;> first | exact nomatch r | (obtain ⟨t, q⟩ := r; exact nomatch q)
theorem op_isX {X : Cx} : OpR X (compareOp .Is) rIsX := by
  refine OpR.or op_isN ?_
  intro pins s σ H x y v u Q I rx ry h
  obtain ⟨b, rfl, q⟩ := h
  cases (show u = Value.bool b from ry)
  show wpAny _ _ (do let r ← isSame v (.bool b); pure (Value.bool r)) _ _ _
  refine wpAny_bind (isSame_bl (relV_nobi rx) (wpAny_pure ?_))
  exact ⟨.bl _, H, I, rfl, by rw [relV_bl rx]; exact q⟩
theorem op_notX {X : Cx} : OpR X (compareOp .IsNot) rNotX := by
  refine OpR.or op_notN ?_
  intro pins s σ H x y v u Q I rx ry h
  obtain ⟨b, rfl, q⟩ := h
  cases (show u = Value.bool b from ry)
  show wpAny _ _ (do let r ← isSame v (.bool b); pure (Value.bool (!r))) _ _ _
  refine wpAny_bind (isSame_bl (relV_nobi rx) (wpAny_pure ?_))
  exact ⟨.bl _, H, I, rfl, by rw [relV_bl rx]; exact q⟩
theorem os_is {K : PySem.W.Frag} {mg : Str → Option Value} : OpS K mg rIsX oIsN := by
  intro ρ dh H x y v u Q W τ w rx ry p
  cases ry with
  | non => cases rx <;> exact .inl ⟨rfl, same_val w (.bl _) p⟩
  | bl b =>
    refine .inr ⟨b, rfl, ?_⟩
    cases rx with
    | bl a =>
      rw [show decide (V.bl a = V.bl b) = decide (a = b) by cases a <;> cases b <;> rfl]
      exact same_val w (.bl _) p
    | _ => exact same_val w (.bl _) p
  | _ => cases rx <;> exact p.elim
theorem os_not {K : PySem.W.Frag} {mg : Str → Option Value} : OpS K mg rNotX oNotN := by
  intro ρ dh H x y v u Q W τ w rx ry p
  cases ry with
  | non => cases rx <;> exact .inl ⟨rfl, same_val w (.bl _) p⟩
  | bl b =>
    refine .inr ⟨b, rfl, ?_⟩
    cases rx with
    | bl a =>
      rw [show decide (V.bl a = V.bl b) = decide (a = b) by cases a <;> cases b <;> rfl]
      exact same_val w (.bl _) p
    | _ => exact same_val w (.bl _) p
  | _ => cases rx <;> exact p.elim

/-! ### == of data -/
mutual
/-- the data as the library tells it; by fuel, for lists in lists -/
def toP (h : DH) : Nat → D → Option PyData
  | 0, _ => none
  | _ + 1, .non => some .none
  | _ + 1, .bl b => some (.bool b)
  | _ + 1, .int i => some (.int i)
  | _ + 1, .str x => some (.str x)
  | n + 1, .tup ds => (toPs h n ds).map .tuple
  | n + 1, .rol ds => (toPs h n ds).map .list
  | n + 1, .ref k => match h[k]? with
    | some (.lst ds) => (toPs h n ds).map .list
    | _ => none
termination_by n _ => (n, 0)
def toPs (h : DH) : Nat → List D → Option (List PyData)
  | _, [] => some []
  | n, d :: ds => match toP h n d, toPs h n ds with
    | some x, some xs => some (x :: xs)
    | _, _ => none
termination_by n ds => (n, ds.length + 1)
end
section
variable {K : PySem.W.Frag} {mg : Str → Option Value} {ρ : List Addr} {H : Hp} {dh : DH}
mutual
theorem toP_dp (w : Wd K mg ρ dh H) : ∀ (n : Nat) {d : D} {v : V} {q : PyData}, Rep K ρ H d v → toP dh n d = some q → Dp K H v q
  | 0, _, _, _, _, e => by simp [toP] at e
  | n + 1, _, _, _, .non, e => by simp [toP] at e; subst e; exact .non
  | n + 1, _, _, _, .bl b, e => by simp [toP] at e; subst e; exact .bl b
  | n + 1, _, _, _, .int i, e => by simp [toP] at e; subst e; exact .int i
  | n + 1, _, _, _, .str x, e => by simp [toP] at e; subst e; exact .str x
  | n + 1, _, _, _, .tup t r, e => by
    simp only [toP, Option.map_eq_some_iff] at e
    obtain ⟨qs, e1, rfl⟩ := e
    exact .tup t.sq (toPs_dp w n r e1)
  | n + 1, _, _, _, .rol t r, e => by
    simp only [toP, Option.map_eq_some_iff] at e
    obtain ⟨qs, e1, rfl⟩ := e
    exact .lst t.sq (toPs_dp w n r e1)
  | n + 1, _, _, _, .ref ha, e => by
    simp only [toP] at e
    split at e
    · rename_i ds hk
      simp only [Option.map_eq_some_iff] at e
      obtain ⟨qs, e1, rfl⟩ := e
      obtain ⟨xs, h1, r1⟩ := cell_lst w hk ha
      exact .lst (SqL.of h1) (toPs_dp w n r1 e1)
    · cases e
termination_by n d _ _ _ _ => (n, 0)
theorem toPs_dp (w : Wd K mg ρ dh H) : ∀ (n : Nat) {ds : List D} {vs : List V} {qs : List PyData}, RepL K ρ H ds vs → toPs dh n ds = some qs → DpAll K H vs qs
  | n, _, _, _, .nil, e => by simp [toPs] at e; subst e; exact .nil
  | n, _, _, _, .cons (ds := ds) h r, e => by
    simp only [toPs] at e
    split at e
    · rename_i x xs e1 e2
      cases e
      exact .cons (toP_dp w n h e1) (toPs_dp w n r e2)
    · cases e
termination_by n ds _ _ _ _ => (n, ds.length + 1)
end
end
def peq (h : DH) (x y : D) : Option Bool := match toP h 66 x, toP h 66 y with
  | some d, some e => if SeqAt.shaped d = true ∧ SeqAt.shaped e = true then some (PyData.eqv d e) else none
  | _, _ => none
/-- ==: flat ones at once; the rest by data -/
def scalD : D → D → Option Bool
  | .int i, .int j => some (decide (i = j))
  | .str i, .str j => some (decide (i = j))
  | .bl i, .bl j => some (decide (i = j))
  | .non, .non => some true
  | .non, .int _ => some false
  | .int _, .non => some false
  | .non, .bl _ => some false
  | .bl _, .non => some false
  | .non, .str _ => some false
  | .str _, .non => some false
  | .int _, .str _ => some false
  | .str _, .int _ => some false
  | .bl _, .str _ => some false
  | .str _, .bl _ => some false
  | _, _ => none
def oEq (x y : D) (h : DH) : Res D := match scalD x y with
  | some b => .ok (.bl b) h
  | none => match peq h x y with
    | some b => .ok (.bl b) h
    | none => .bad
def oNe (x y : D) (h : DH) : Res D := match scalD x y with
  | some b => .ok (.bl (!b)) h
  | none => match peq h x y with
    | some b => .ok (.bl (!b)) h
    | none => .bad
theorem scalD_rep {K : PySem.W.Frag} {ρ : List Addr} {H : Hp} {x y : D} {v u : V} {b : Bool} (rx : Rep K ρ H x v) (ry : Rep K ρ H y u) (e : scalD x y = some b) : scal v u = true ∧ b = decide (v = u) := by
  cases rx <;> cases ry <;> simp only [scalD] at e <;> first
    | (cases e; refine ⟨rfl, ?_⟩; first | rfl | (rename_i a b; by_cases z : a = b <;> simp [z]) | simp)
    | (cases e)
def rEqX (K : PySem.W.Frag) : R2 := fun x y H Q => rEq x y H Q ∨ rEqD K x y H Q
def rNeX (K : PySem.W.Frag) : R2 := fun x y H Q => rNe x y H Q ∨ rNeD K x y H Q
theorem op_eqX {X : Cx} (hu : X.A.units + 64 < cLine) : OpR X (compareOp .Eq) (rEqX X.K) := OpR.or op_eq (op_eqD hu)
theorem op_neX {X : Cx} (hu : X.A.units + 64 < cLine) : OpR X (compareOp .NotEq) (rNeX X.K) := OpR.or op_ne (op_neD hu)
section
variable {K : PySem.W.Frag} {mg : Str → Option Value}
theorem peq_dp {ρ : List Addr} {H : Hp} {dh : DH} {x y : D} {v u : V} {b : Bool} (w : Wd K mg ρ dh H) (rx : Rep K ρ H x v) (ry : Rep K ρ H y u) (e : peq dh x y = some b) :
    ∃ d q, Dp K H v d ∧ Dp K H u q ∧ SeqAt.shaped d = true ∧ SeqAt.shaped q = true ∧ b = PyData.eqv d q := by
  unfold peq at e
  split at e
  · rename_i d q e1 e2
    split at e
    · rename_i hs
      cases e
      exact ⟨d, q, toP_dp w 66 rx e1, toP_dp w 66 ry e2, hs.1, hs.2, rfl⟩
    · cases e
  · cases e
theorem os_eq : OpS K mg (rEqX K) oEq := by
  intro ρ dh H x y v u Q W τ w rx ry p
  unfold oEq at p
  split at p
  · rename_i b e
    obtain ⟨h1, rfl⟩ := scalD_rep rx ry e
    exact .inl ⟨h1, same_val w (.bl _) p⟩
  · split at p
    · rename_i b e
      obtain ⟨d, q, h1, h2, h3, h4, rfl⟩ := peq_dp w rx ry e
      exact .inr ⟨d, q, h1, h2, h3, h4, same_val w (.bl _) p⟩
    · exact p.elim
theorem os_ne : OpS K mg (rNeX K) oNe := by
  intro ρ dh H x y v u Q W τ w rx ry p
  unfold oNe at p
  split at p
  · rename_i b e
    obtain ⟨h1, rfl⟩ := scalD_rep rx ry e
    exact .inl ⟨h1, same_val w (.bl _) p⟩
  · split at p
    · rename_i b e
      obtain ⟨d, q, h1, h2, h3, h4, rfl⟩ := peq_dp w rx ry e
      exact .inr ⟨d, q, h1, h2, h3, h4, same_val w (.bl _) p⟩
    · exact p.elim
end
end DL

/-! The data layer: comparisons in chains, and, or, not, truth, arguments, displays, subscripts, slices, calls of built-ins. -/
namespace DL
open PySem PySem.Spec L2
open PyProof.Rows hiding St

section
variable {α β γ δ : Type} {K : PySem.W.Frag} {mg : Str → Option Value} {R : List Addr → Hp → α → β → Prop} {R2 : List Addr → Hp → γ → δ → Prop} {W : WX} {τ : L2.St} {ρ : List Addr} {H : Hp}
/-- a part's result, then the rest -/
theorem Pst.bind {r : Res α} {g : α → DH → Res γ} {P : δ → Hp → Prop} (p : Pst K mg R2 W τ ρ H P (r.bind g)) :
    Pst K mg R W τ ρ H (fun b H1 => ∃ x dh ρ', Grow ρ H ρ' H1 ∧ Wd K mg ρ' dh H1 ∧ R ρ' H1 x b ∧ Pst K mg R2 W τ ρ' H1 P (g x dh)) r := by
  cases r with
  | ok a dh => exact fun ρ' H' b g' w' r' => ⟨a, dh, ρ', g', w', r', Pst.grow g' p⟩
  | exc e dh => exact p
  | bad => exact p
end
/-- the end of a way: a value as it stands -/
theorem Pst.done {K : PySem.W.Frag} {mg : Str → Option Value} {W : WX} {τ : L2.St} {ρ : List Addr} {H : Hp} {dh : DH} {Q : Bool → Hp → Prop} {b : Bool} (w : Wd K mg ρ dh H) (p : Pst K mg (fun _ _ a b => a = b) W τ ρ H Q (.ok b dh)) : Q b H := p _ _ _ (Grow.refl _ _) w rfl

/-! ### a < b < c -/
def dChain (op op' : D → D → DH → Res D) (fa fb fc : FE) : FE := fun σ h => (fa σ h).bind fun x h1 => (fb σ h1).bind fun y h2 => (op x y h2).bind fun z h3 => match z with
  | .bl true => (fc σ h3).bind fun w h4 => op' y w h4
  | .bl false => .ok (.bl false) h3
  | _ => .bad
section
variable {X : Cx} {W : WX} {K : PySem.W.Frag} {mg : Str → Option Value} {τ : L2.St} {H : Hp} {Q : VK}
theorem rd_chain {fa fb fc : FE} {op op' : D → D → DH → Res D} {r r' : R2} (ho : OpS K mg r op) (ho' : OpS K mg r' op') (h : rE K mg W (dChain op op' fa fb fc) τ H Q) : tChain r r' (rE K mg W fa) (rE K mg W fb) (rE K mg W fc) τ H Q := by
  obtain ⟨σ, dh, ρ, w, s, p⟩ := h
  refine ⟨σ, dh, ρ, w, s, ?_⟩
  refine Pst.mono (Pst.bind (R := Rep K) p) ?_
  rintro v H1 ⟨x, h1, ρ1, g1, w1, rx, p1⟩
  refine ⟨σ, h1, ρ1, w1, s.grow g1, ?_⟩
  refine Pst.mono (Pst.bind (R := Rep K) p1) ?_
  rintro u H2 ⟨y, h2, ρ2, g2, w2, ry, p2⟩
  refine ho ρ2 h2 H2 x y v u _ W τ w2 (rx.grow g2) ry ?_
  refine Pst.mono (Pst.bind (R := Rep K) p2) ?_
  rintro z H3 ⟨b, h3, ρ3, g3, w3, rb, p3⟩
  cases rb with
  | bl k =>
    refine ⟨k, rfl, ?_⟩
    cases k with
    | true =>
      rw [if_pos rfl]
      refine ⟨σ, h3, ρ3, w3, s.grow (g1.trans (g2.trans g3)), ?_⟩
      refine Pst.mono (Pst.bind (R := Rep K) p3) ?_
      rintro t H4 ⟨c, h4, ρ4, g4, w4, rc, p4⟩
      exact ho' ρ4 h4 H4 y c u t Q W τ w4 (ry.grow (g3.trans g4)) rc p4
    | false =>
      rw [if_neg Bool.false_ne_true]
      exact same_val w3 (.bl _) p3
  | _ => exact p3.elim
theorem de_chain {op op' : CmpOp} {r r' : R2} {dop dop' : D → D → DH → Res D} {a b c : Expr} {fa fb fc : FE} {pos : Pos} (ho : OpR X (compareOp op) r) (ho' : OpR X (compareOp op') r') (hs : OpS X.K X.mg r dop) (hs' : OpS X.K X.mg r' dop')
    (ha : PE X a (rE X.K X.mg W fa)) (hb : PE X b (rE X.K X.mg W fb)) (hc : PE X c (rE X.K X.mg W fc)) (hm : lastMarks [op, op'] [b, c] = false := by with_unfolding_all rfl) :
    PE X (.Compare a [op, op'] [b, c] pos) (rE X.K X.mg W (dChain dop dop' fa fb fc)) := PE.weak (pe_chain ho ho' ha hb hc hm) fun _ _ _ h => rd_chain hs hs' h
theorem dt_chain {op op' : CmpOp} {r r' : R2} {dop dop' : D → D → DH → Res D} {a b c : Expr} {fa fb fc : FE} {pos : Pos} (ho : OpR X (compareOp op) r) (ho' : OpR X (compareOp op') r') (hs : OpS X.K X.mg r dop) (hs' : OpS X.K X.mg r' dop')
    (ha : PE X a (rE X.K X.mg W fa)) (hb : PE X b (rE X.K X.mg W fb)) (hc : PE X c (rE X.K X.mg W fc)) (hm : lastMarks [op, op'] [b, c] = false := by with_unfolding_all rfl) :
    PT X (.Compare a [op, op'] [b, c] pos) (rT X.K X.mg W (dTest (dChain dop dop' fa fb fc))) := PT.weak (pt_chain ho ho' ha hb hc hm) fun _ _ _ h => rd_chain hs hs' (rd_test h)
theorem dt_cmp {op : CmpOp} {r : R2} {dop : D → D → DH → Res D} {a b : Expr} {fa fb : FE} {pos : Pos} (ho : OpR X (compareOp op) r) (hs : OpS X.K X.mg r dop) (ha : PE X a (rE X.K X.mg W fa)) (hb : PE X b (rE X.K X.mg W fb)) (hm : behindInMarks op b = false := by first | exact nobehind _ (by decide) (by decide) | rfl | with_unfolding_all rfl) :
    PT X (.Compare a [op] [b] pos) (rT X.K X.mg W (dTest (dBin dop fa fb))) := PT.weak (pt_cmpR ho ha hb hm) fun _ _ _ h => rd_two hs (rd_test h)
end

/-! ### and, or, not -/
def dAndT (f g : FT) : FT := fun σ h => (f σ h).bind fun c h1 => if c = true then g σ h1 else .ok false h1
def dOrT (f g : FT) : FT := fun σ h => (f σ h).bind fun c h1 => if c = true then .ok true h1 else g σ h1
def dNotT (f : FT) : FT := fun σ h => (f σ h).bind fun c h1 => .ok (!c) h1
def dAndV (f g : FE) : FE := fun σ h => (f σ h).bind fun x h1 => match x with
  | .bl true => g σ h1
  | .bl false => .ok (.bl false) h1
  | _ => .bad
def dOrV (f g : FE) : FE := fun σ h => (f σ h).bind fun x h1 => match x with
  | .bl true => .ok (.bl true) h1
  | .bl false => g σ h1
  | _ => .bad
def dNotV (f : FE) : FE := dUn (fun x h => match x with
  | .bl b => .ok (.bl (!b)) h
  | _ => .bad) f
def dIfE (c : FT) (f g : FE) : FE := fun σ h => (c σ h).bind fun b h1 => if b = true then f σ h1 else g σ h1
section
variable {X : Cx} {W : WX} {a b : Expr} {rest : List Expr} {pos : Pos}
theorem dw_and1 {f : FT} (h : PT X a (rT X.K X.mg W f)) : PW X (.BoolOp .And [a] pos) (rT X.K X.mg W f) := pw_and1 h
theorem dw_or1 {f : FT} (h : PT X a (rT X.K X.mg W f)) : PW X (.BoolOp .Or [a] pos) (rT X.K X.mg W f) := pw_or1 h
theorem dw_and {f g : FT} (ha : PT X a (rT X.K X.mg W f)) (hb : PW X (.BoolOp .And (b :: rest) pos) (rT X.K X.mg W g)) : PW X (.BoolOp .And (a :: b :: rest) pos) (rT X.K X.mg W (dAndT f g)) := by
  refine PW.weak (pw_and ha hb) fun τ H Q h => ?_
  refine rd.mono (fun c H1 => ?_) (rd_bind (R := fun _ _ a b => a = b) (g := fun c σ h1 => if c = true then g σ h1 else .ok false h1) h)
  rintro ⟨x, σ, dh, ρ, w, s, rfl, p⟩
  cases x
  · rw [if_neg Bool.false_ne_true] at p ⊢
    exact p.done w
  · rw [if_pos rfl] at p ⊢
    exact ⟨σ, dh, ρ, w, s, p⟩
theorem dw_or {f g : FT} (ha : PT X a (rT X.K X.mg W f)) (hb : PW X (.BoolOp .Or (b :: rest) pos) (rT X.K X.mg W g)) : PW X (.BoolOp .Or (a :: b :: rest) pos) (rT X.K X.mg W (dOrT f g)) := by
  refine PW.weak (pw_or ha hb) fun τ H Q h => ?_
  refine rd.mono (fun c H1 => ?_) (rd_bind (R := fun _ _ a b => a = b) (g := fun c σ h1 => if c = true then .ok true h1 else g σ h1) h)
  rintro ⟨x, σ, dh, ρ, w, s, rfl, p⟩
  cases x
  · rw [if_neg Bool.false_ne_true] at p ⊢
    exact ⟨σ, dh, ρ, w, s, p⟩
  · rw [if_pos rfl] at p ⊢
    exact p.done w
theorem dt_not {f : FT} (ha : PT X a (rT X.K X.mg W f)) : PT X (.UnaryOp .Not a pos) (rT X.K X.mg W (dNotT f)) := by
  refine PT.weak (pt_not ha) fun τ H Q h => ?_
  refine rd.mono (fun c H1 => ?_) (rd_bind (R := fun _ _ a b => a = b) (g := fun c σ h1 => .ok (!c) h1) h)
  rintro ⟨x, σ, dh, ρ, w, s, rfl, p⟩
  exact p.done w
theorem de_one {op} {f : FE} (h : PE X a (rE X.K X.mg W f)) : PE X (.BoolOp op [a] pos) (rE X.K X.mg W f) := pe_one h
theorem de_and {f g : FE} (ha : PE X a (rE X.K X.mg W f)) (hb : PE X (.BoolOp .And (b :: rest) pos) (rE X.K X.mg W g)) : PE X (.BoolOp .And (a :: b :: rest) pos) (rE X.K X.mg W (dAndV f g)) := by
  refine PE.weak (pe_and ha hb) fun τ H Q h => ?_
  refine rd.mono (fun c H1 => ?_) (rd_bind (R := Rep X.K) (g := fun x σ h1 => match x with | .bl true => g σ h1 | .bl false => .ok (.bl false) h1 | _ => .bad) h)
  rintro ⟨x, σ, dh, ρ, w, s, rx, p⟩
  cases rx with
  | bl k =>
    refine ⟨k, rfl, ?_⟩
    cases k
    · rw [if_neg Bool.false_ne_true]
      exact same_val w (.bl _) p
    · rw [if_pos rfl]
      exact ⟨σ, dh, ρ, w, s, p⟩
  | _ => exact p.elim
theorem de_or {f g : FE} (ha : PE X a (rE X.K X.mg W f)) (hb : PE X (.BoolOp .Or (b :: rest) pos) (rE X.K X.mg W g)) : PE X (.BoolOp .Or (a :: b :: rest) pos) (rE X.K X.mg W (dOrV f g)) := by
  refine PE.weak (pe_or ha hb) fun τ H Q h => ?_
  refine rd.mono (fun c H1 => ?_) (rd_bind (R := Rep X.K) (g := fun x σ h1 => match x with | .bl true => .ok (.bl true) h1 | .bl false => g σ h1 | _ => .bad) h)
  rintro ⟨x, σ, dh, ρ, w, s, rx, p⟩
  cases rx with
  | bl k =>
    refine ⟨k, rfl, ?_⟩
    cases k
    · rw [if_neg Bool.false_ne_true]
      exact ⟨σ, dh, ρ, w, s, p⟩
    · rw [if_pos rfl]
      exact same_val w (.bl _) p
  | _ => exact p.elim
theorem de_not {f : FE} (ha : PE X a (rE X.K X.mg W f)) : PE X (.UnaryOp .Not a pos) (rE X.K X.mg W (dNotV f)) :=
  PE.weak (pe_not ha) fun _ _ _ h => rd_one (r := fun x H Q => ∃ c, x = .bl c ∧ Q (.bl (!c)) H) (fun ρ dh H x v Q W τ w rx p => by
    cases rx <;> first | exact p.elim | skip
    exact ⟨_, rfl, same_val w (.bl _) p⟩) h
theorem de_if {c : Expr} {t : FT} {f g : FE} (hc : PT X c (rT X.K X.mg W t)) (ha : PE X a (rE X.K X.mg W f)) (hb : PE X b (rE X.K X.mg W g)) : PE X (.IfExp c a b pos) (rE X.K X.mg W (dIfE t f g)) := by
  refine PE.weak (pe_ifExp hc ha hb) fun τ H Q h => ?_
  refine rd.mono (fun c H1 => ?_) (rd_bind (R := fun _ _ a b => a = b) (g := fun b σ h1 => if b = true then f σ h1 else g σ h1) h)
  rintro ⟨x, σ, dh, ρ, w, s, rfl, p⟩
  cases x
  · rw [if_neg Bool.false_ne_true] at p ⊢
    exact ⟨σ, dh, ρ, w, s, p⟩
  · rw [if_pos rfl] at p ⊢
    exact ⟨σ, dh, ρ, w, s, p⟩
end

/-! ### a value's truth -/
def truD (h : DH) : D → Option Bool
  | .non => some false
  | .bl b => some b
  | .int i => some (i != 0)
  | .str x => if x.length ≤ 16777216 then some (x.length != 0) else none
  | .tup ds => some (!ds.isEmpty)
  | .rol ds => some (!ds.isEmpty)
  | .ref n => match h[n]? with
    | some (.lst ds) => some (!ds.isEmpty)
    | some (.dic kvs) => some (!kvs.isEmpty)
    | _ => none
theorem truV_of {K : PySem.W.Frag} {mg : Str → Option Value} {ρ : List Addr} {H : Hp} {dh : DH} {x : D} {v : V} {b : Bool} (w : Wd K mg ρ dh H) (r : Rep K ρ H x v) (e : truD dh x = some b) : TruV K v H b := by
  cases r with
  | non => cases e; rfl
  | bl k => cases e; rfl
  | int i => cases e; rfl
  | str x =>
    simp only [truD] at e
    split at e
    · rename_i hl
      cases e
      refine ⟨size_lim hl, ?_⟩
      cases x.length <;> rfl
    · cases e
  | @tup ds a xs t r =>
    cases e
    refine .inr (.inl ⟨xs, t.sq, ?_⟩)
    cases r <;> rfl
  | @rol ds a xs t r =>
    cases e
    refine .inl ⟨xs, t.sq, ?_⟩
    cases r <;> rfl
  | @ref n a ha =>
    simp only [truD] at e
    split at e
    · rename_i ds hk
      cases e
      obtain ⟨xs, h1, r1⟩ := cell_lst w hk ha
      refine .inl ⟨xs, SqL.of h1, ?_⟩
      cases r1 <;> rfl
    · rename_i kvs hk
      cases e
      obtain ⟨ks, h1, r1⟩ := w.cellAt hk ha
      refine .inr (.inr ⟨ks, h1, ?_⟩)
      cases r1 <;> rfl
    · cases e
def dTru (f : FE) : FT := fun σ h => (f σ h).bind fun x h1 => match truD h1 x with
  | some b => .ok b h1
  | none => .bad
theorem dt_tru {X : Cx} {W : WX} {e : Expr} {f : FE} (h : PE X e (rE X.K X.mg W f)) (he : ∀ whole, isTrue e X.env whole = (do let v ← whole; standAt e.pos; holding [v] (truthy v)) := by intro _; rfl) : PT X e (rT X.K X.mg W (dTru f)) := by
  refine PT.weak (pt_truth h he) fun τ H Q r => ?_
  refine rd.mono (fun v H1 => ?_) (rd_bind (R := Rep X.K) (g := fun x σ h1 => match truD h1 x with | some b => .ok b h1 | none => .bad) r)
  rintro ⟨x, σ, dh, ρ, w, s, rx, p⟩
  cases e : truD dh x with
  | none => simp only [e] at p; exact p.elim
  | some b =>
    simp only [e] at p
    exact ⟨b, truV_of w rx e, p.done w⟩

/-! ### arguments, displays -/
def dNil : FA := fun _ h => .ok [] h
def dCons (f : FE) (g : FA) : FA := fun σ h => (f σ h).bind fun x h1 => (g σ h1).bind fun xs h2 => .ok (x :: xs) h2
section
variable {X : Cx} {W : WX} {e : Expr} {es : List Expr} {pos : Pos}
theorem da_nil : PA X [] (rA X.K X.mg W dNil) := PA.weak pa_nil fun _ _ _ ⟨_, _, _, w, _, p⟩ => p _ _ _ (Grow.refl _ _) w .nil
theorem da_cons {f : FE} {g : FA} (ha : PE X e (rE X.K X.mg W f)) (hr : PA X es (rA X.K X.mg W g)) (hs : starEach (e :: es) X.env = (false, eval e X.env) :: starEach es X.env := by rfl) : PA X (e :: es) (rA X.K X.mg W (dCons f g)) := by
  refine PA.weak (pa_cons ha hr hs) fun τ H Q h => ?_
  obtain ⟨σ, dh, ρ, w, s, p⟩ := h
  refine ⟨σ, dh, ρ, w, s, ?_⟩
  refine Pst.mono (Pst.bind (R := Rep X.K) p) ?_
  rintro v H1 ⟨x, h1, ρ1, g1, w1, rx, p1⟩
  refine ⟨σ, h1, ρ1, w1, s.grow g1, ?_⟩
  refine Pst.mono (Pst.bind (R := RepL X.K) p1) ?_
  rintro vs H2 ⟨xs, h2, ρ2, g2, w2, rxs, p2⟩
  exact p2 _ _ _ (Grow.refl _ _) w2 (.cons (rx.grow g2) rxs)
def dTup (f : FA) : FE := fun σ h => (f σ h).bind fun xs h1 => if xs.length ≤ 16777216 then .ok (.tup xs) h1 else .bad
def dLst (f : FA) : FE := fun σ h => (f σ h).bind fun xs h1 => if xs.length ≤ 16777216 then .ok (.ref h1.length) (h1 ++ [.lst xs]) else .bad
theorem de_tup {f : FA} {x1} (h : PA X es (rA X.K X.mg W f)) : PE X (.Tuple es x1 pos) (rE X.K X.mg W (dTup f)) := by
  refine PE.weak (pe_tupX h) fun τ H Q r => ?_
  refine rd.mono (fun vs H1 => ?_) (rd_bind (R := RepL X.K) (g := fun xs σ h1 => if xs.length ≤ 16777216 then .ok (D.tup xs) h1 else .bad) r)
  rintro ⟨x, σ, dh, ρ, w, s, rx, p⟩
  split at p
  · rename_i hl
    exact ⟨size_lim (by rw [← rx.length]; exact hl), new_tup w rx p⟩
  · exact p.elim
theorem de_lst {f : FA} (h : PA X es (rA X.K X.mg W f)) : PE X (.List es pos) (rE X.K X.mg W (dLst f)) := by
  refine PE.weak (pe_lst h) fun τ H Q r => ?_
  refine rd.mono (fun vs H1 => ?_) (rd_bind (R := RepL X.K) (g := fun xs σ h1 => if xs.length ≤ 16777216 then .ok (D.ref h1.length) (h1 ++ [.lst xs]) else .bad) r)
  rintro ⟨x, σ, dh, ρ, w, s, rx, p⟩
  split at p
  · rename_i hl
    exact ⟨size_lim (by rw [← rx.length]; exact hl), new_lst w rx p⟩
  · exact p.elim
end

/-! ### subscripts, slices -/
theorem RepL.atI {K : PySem.W.Frag} {ρ : List Addr} {H : Hp} {ds : List D} {xs : List V} {i : Int} {d : D} (r : RepL K ρ H ds xs) (e : L2.atI ds i = some d) : ∃ v, L2.atI xs i = some v ∧ Rep K ρ H d v := by
  unfold L2.atI at e ⊢
  rw [r.length] at e
  cases h : ixN xs.length i with
  | none => rw [h] at e; cases e
  | some j =>
    rw [h] at e
    exact r.get e
def oIx : D → D → DH → Res D
  | .tup ds, .int i, h => match L2.atI ds i with
    | some d => .ok d h
    | none => .bad
  | .rol ds, .int i, h => match L2.atI ds i with
    | some d => .ok d h
    | none => .bad
  | .ref n, .int i, h => match h[n]? with
    | some (.lst ds) => match L2.atI ds i with
      | some d => .ok d h
      | none => .bad
    | _ => .bad
  | .str z, .int i, h => if z.length ≤ 16777216 then (match L2.atI z.cps.toList i with
    | some c => .ok (.str ⟨#[c]⟩) h
    | none => .bad) else .bad
  | _, _, _ => .bad
theorem os_ix {K : PySem.W.Frag} {mg : Str → Option Value} : OpS K mg (rIx K) oIx := by
  intro ρ dh H x y v u Q W τ w rx ry p
  cases ry with
  | int i =>
    cases rx with
    | @tup ds a xs t r =>
      simp only [oIx] at p
      split at p
      · rename_i d e
        obtain ⟨v, h1, h2⟩ := r.atI e
        exact .inr (.inl ⟨_, _, _, v, rfl, rfl, t.sq, h1, same_val w h2 p⟩)
      · exact p.elim
    | @rol ds a xs t r =>
      simp only [oIx] at p
      split at p
      · rename_i d e
        obtain ⟨v, h1, h2⟩ := r.atI e
        exact .inl ⟨_, _, _, v, rfl, rfl, t.sq, h1, same_val w h2 p⟩
      · exact p.elim
    | @ref n a ha =>
      simp only [oIx] at p
      split at p
      · rename_i ds hk
        obtain ⟨xs, hx, r⟩ := cell_lst w hk ha
        split at p
        · rename_i d e
          obtain ⟨v, h1, h2⟩ := r.atI e
          exact .inl ⟨_, _, _, v, rfl, rfl, SqL.of hx, h1, same_val w h2 p⟩
        · exact p.elim
      · exact p.elim
    | str z =>
      simp only [oIx] at p
      split at p
      · rename_i hl
        split at p
        · rename_i c e
          exact .inr (.inr ⟨z, i, c, rfl, rfl, size_lim hl, e, same_val w (.str _) p⟩)
        · exact p.elim
      · exact p.elim
    | _ => exact p.elim
  | _ => cases rx <;> exact p.elim
theorem de_ix {X : Cx} {W : WX} {a b : Expr} {fa fb : FE} {pos : Pos} (ha : PE X a (rE X.K X.mg W fa)) (hb : PE X b (rE X.K X.mg W fb)) (hs : PlainIx b := by exact fun _ _ => rfl) : PE X (.Subscript a b pos) (rE X.K X.mg W (dBin oIx fa fb)) :=
  PE.weak (pe_ix ix_seq ha hb hs) fun _ _ _ h => rd_two os_ix h

def cutD (ds : List D) (lo hi : Option Int) : List D := (ds.drop (HT.sIx ds.length 0 lo)).take (HT.sIx ds.length ds.length hi - HT.sIx ds.length 0 lo)
theorem RepL.cut {K : PySem.W.Frag} {ρ : List Addr} {H : Hp} {ds : List D} {xs : List V} (r : RepL K ρ H ds xs) (lo hi : Option Int) : RepL K ρ H (cutD ds lo hi) (cutV xs lo hi) := by
  unfold cutD cutV
  rw [r.length]
  exact (r.drop _).take _
abbrev FO := DE → DH → Res (Option Int)
def dNoPart : FO := fun _ h => .ok none h
def dPart (f : FE) : FO := fun σ h => (f σ h).bind fun x h1 => match x with
  | .int i => .ok (some i) h1
  | _ => .bad
abbrev rO (K : PySem.W.Frag) (mg : Str → Option Value) (W : WX) (f : FO) : TO := rd K mg (fun _ _ a b => a = b) W f
def oSl (x : D) (lo hi : Option Int) (h : DH) : Res D := match x with
  | .tup ds => .ok (.tup (cutD ds lo hi)) h
  | .rol ds => .ok (.ref h.length) (h ++ [.lst (cutD ds lo hi)])
  | .ref n => match h[n]? with
    | some (.lst ds) => .ok (.ref h.length) (h ++ [.lst (cutD ds lo hi)])
    | _ => .bad
  | .str z => if z.length ≤ 16777216 then .ok (.str (cutS z lo hi)) h else .bad
  | _ => .bad
def dSl (f : FE) (lo hi : FO) : FE := fun σ h => (f σ h).bind fun x h1 => (lo σ h1).bind fun l h2 => (hi σ h2).bind fun u h3 => oSl x l u h3
section
variable {X : Cx} {W : WX}
theorem PO.weak {e : Option Expr} {t t' : TO} (h : PO X e t) (w : ∀ σ H Q, t' σ H Q → t σ H Q) : PO X e t' := ⟨fun pins s σ H Q I q => h.run pins s σ H Q I (w σ H Q q)⟩
theorem do_none : PO X none (rO X.K X.mg W dNoPart) := PO.weak po_none fun _ _ _ ⟨_, _, _, w, _, p⟩ => p _ _ _ (Grow.refl _ _) w rfl
theorem do_some {e : Expr} {f : FE} (h : PE X e (rE X.K X.mg W f)) : PO X (some e) (rO X.K X.mg W (dPart f)) := by
  refine PO.weak (po_some h) fun τ H Q r => ?_
  refine rd.mono (fun v H1 => ?_) (rd_bind (R := Rep X.K) (g := fun x σ h1 => match x with | .int i => .ok (some i) h1 | _ => .bad) r)
  rintro ⟨x, σ, dh, ρ, w, s, rx, p⟩
  cases rx <;> first | exact p.elim | skip
  exact ⟨_, rfl, p _ _ _ (Grow.refl _ _) w rfl⟩
def rSlAny (K : PySem.W.Frag) : V → Option Int → Option Int → Hp → VK → Prop := fun x lo hi H Q => rSlX K x lo hi H Q ∨ (rSlL K x lo hi H Q ∨ rSlS x lo hi H Q)
theorem sl_any : SlR X (rSlAny X.K) := SlR.or sl_tupX (SlR.or sl_list sl_str)
theorem de_sl {e : Expr} {f : FE} {lo hi : Option Expr} {fl fh : FO} {pos p2 : Pos} (he : PE X e (rE X.K X.mg W f)) (hl : PO X lo (rO X.K X.mg W fl)) (hh : PO X hi (rO X.K X.mg W fh)) : PE X (.Subscript e (.Slice lo hi none p2) pos) (rE X.K X.mg W (dSl f fl fh)) := by
  refine PE.weak (pe_slice sl_any he hl hh) fun τ H Q h => ?_
  obtain ⟨σ, dh, ρ, w, s, p⟩ := h
  refine ⟨σ, dh, ρ, w, s, ?_⟩
  refine Pst.mono (Pst.bind (R := Rep X.K) p) ?_
  rintro v H1 ⟨x, h1, ρ1, g1, w1, rx, p1⟩
  refine ⟨σ, h1, ρ1, w1, s.grow g1, ?_⟩
  refine Pst.mono (Pst.bind (R := fun _ _ a b => a = b) p1) ?_
  rintro l H2 ⟨l', h2, ρ2, g2, w2, rfl, p2⟩
  refine ⟨σ, h2, ρ2, w2, s.grow (g1.trans g2), ?_⟩
  refine Pst.mono (Pst.bind (R := fun _ _ a b => a = b) p2) ?_
  rintro u H3 ⟨u', h3, ρ3, g3, w3, rfl, p3⟩
  have rx3 := rx.grow (g2.trans g3)
  cases rx3 with
  | @tup ds a xs t r =>
    refine .inl ⟨a, xs, rfl, t.sq, fun e => ?_, new_tup w3 (r.cut _ _) p3⟩
    have q := r.cut l' u'
    rw [e] at q
    exact same_val w3 (.tup t q) p3
  | @rol ds a xs t r => exact .inr (.inl ⟨a, xs, rfl, t.sq, new_lst w3 (r.cut _ _) p3⟩)
  | @ref n a ha =>
    simp only [oSl] at p3
    split at p3
    · rename_i ds hk
      obtain ⟨xs, hx, r⟩ := cell_lst w3 hk ha
      exact .inr (.inl ⟨a, xs, rfl, SqL.of hx, new_lst w3 (r.cut _ _) p3⟩)
    · exact p3.elim
  | str z =>
    simp only [oSl] at p3
    split at p3
    · rename_i hl
      exact .inr (.inr ⟨z, rfl, size_lim hl, same_val w3 (.str _) p3⟩)
    · exact p3.elim
  | _ => exact p3.elim
end

/-! ### calls of built-ins by name -/
def CallS (K : PySem.W.Frag) (mg : Str → Option Value) (r : List V → Hp → VK → Prop) (f : List D → DH → Res D) : Prop :=
  ∀ (ρ : List Addr) (dh : DH) (H : Hp) (ds : List D) (vs : List V) (Q : VK) (W : WX) (τ : L2.St), Wd K mg ρ dh H → RepL K ρ H ds vs → Pst K mg (Rep K) W τ ρ H Q (f ds dh) → r vs H Q
def dCB (f : List D → DH → Res D) (g : FA) : FE := fun σ h => (g σ h).bind fun xs h1 => f xs h1
section
variable {X : Cx} {W : WX} {x : Str} {p pos : Pos} {e : Expr} {es : List Expr} {id T : String} {r : List V → Hp → VK → Prop} {f : List D → DH → Res D} {g : FA}
theorem rd_cb {K : PySem.W.Frag} {mg : Str → Option Value} {τ : L2.St} {H : Hp} {Q : VK} (hs : CallS K mg r f) (h : rE K mg W (dCB f g) τ H Q) : tCB r (rA K mg W g) τ H Q := by
  refine rd.mono (fun vs H1 => ?_) (rd_bind (R := RepL K) (g := fun xs σ h1 => f xs h1) h)
  rintro ⟨x, σ, dh, ρ, w, s, rx, p⟩
  exact hs ρ dh H1 x vs Q W τ w rx p
theorem de_callB (hc : CallR X (.builtin id) r) (hs : CallS X.K X.mg r f) (hm : X.mg x = none) (ha : PA X (e :: es) (rA X.K X.mg W g)) (hg : Gl X x := by rfl) (hv : bootBuiltins x = some (.builtin id) := by decide +kernel) (hn : x ≠ "__name__" := by decide) (hdb : (x == ("__debug__" : Str)) = false := by decide)
    (he : starEach (e :: es) X.env = (false, eval e X.env) :: starEach es X.env := by rfl) (hpl : (backTo pos (starEach es X.env)).any (·.1) = false := by rfl) : PE X (.Call (.Name x p) (e :: es) [] pos) (rE X.K X.mg W (dCB f g)) :=
  PE.weak (pe_callB hc hg hm hv ha hn hdb he hpl) fun _ _ _ h => rd_cb hs h
theorem de_callTy (hc : CallR X (.type T) r) (hs : CallS X.K X.mg r f) (hm : X.mg x = none) (ha : PA X (e :: es) (rA X.K X.mg W g)) (hg : Gl X x := by rfl) (hv : bootBuiltins x = some (.type T) := by decide +kernel) (hn : x ≠ "__name__" := by decide) (hdb : (x == ("__debug__" : Str)) = false := by decide)
    (he : starEach (e :: es) X.env = (false, eval e X.env) :: starEach es X.env := by rfl) (hpl : (backTo pos (starEach es X.env)).any (·.1) = false := by rfl) : PE X (.Call (.Name x p) (e :: es) [] pos) (rE X.K X.mg W (dCB f g)) :=
  PE.weak (pe_callTy hc hg hm hv ha hn hdb he hpl) fun _ _ _ h => rd_cb hs h
end
/-- len -/
def bLen : List D → DH → Res D
  | [.str z], h => if z.length ≤ 16777216 then .ok (.int z.length) h else .bad
  | [.tup ds], h => .ok (.int ds.length) h
  | [.rol ds], h => .ok (.int ds.length) h
  | [.ref n], h => match h[n]? with
    | some (.lst ds) => .ok (.int ds.length) h
    | _ => .bad
  | _, _ => .bad
theorem RepL.inv1 {K : PySem.W.Frag} {ρ : List Addr} {H : Hp} {d : D} {vs : List V} (r : RepL K ρ H [d] vs) : ∃ v, vs = [v] ∧ Rep K ρ H d v := by
  cases r with
  | cons h t => cases t; exact ⟨_, rfl, h⟩
theorem RepL.inv2 {K : PySem.W.Frag} {ρ : List Addr} {H : Hp} {d e : D} {vs : List V} (r : RepL K ρ H [d, e] vs) : ∃ v u, vs = [v, u] ∧ Rep K ρ H d v ∧ Rep K ρ H e u := by
  cases r with
  | cons h t =>
    obtain ⟨u, rfl, q⟩ := t.inv1
    exact ⟨_, _, rfl, h, q⟩
section
variable {K : PySem.W.Frag} {mg : Str → Option Value}
theorem cs_len : CallS K mg (fun xs H Q => ∃ x n, xs = [x] ∧ LenV K x H n ∧ Q (.int n) H) bLen := by
  intro ρ dh H ds vs Q W τ w rx p
  unfold bLen at p
  split at p
  · obtain ⟨v, rfl, r⟩ := rx.inv1
    cases r
    split at p
    · rename_i hl
      exact ⟨_, _, rfl, ⟨size_lim hl, rfl⟩, same_val w (.int _) p⟩
    · exact p.elim
  · obtain ⟨v, rfl, r⟩ := rx.inv1
    cases r with
    | tup t r => exact ⟨_, _, rfl, .inr ⟨_, t.sq, rfl⟩, by rw [← r.length]; exact same_val w (.int _) p⟩
  · obtain ⟨v, rfl, r⟩ := rx.inv1
    cases r with
    | rol t r => exact ⟨_, _, rfl, .inl ⟨_, t.sq, rfl⟩, by rw [← r.length]; exact same_val w (.int _) p⟩
  · obtain ⟨v, rfl, r⟩ := rx.inv1
    cases r with
    | ref ha =>
      split at p
      · rename_i ds hk
        obtain ⟨xs, hx, r⟩ := cell_lst w hk ha
        exact ⟨_, _, rfl, .inl ⟨_, SqL.of hx, rfl⟩, by rw [← r.length]; exact same_val w (.int _) p⟩
      · exact p.elim
  · exact p.elim
/-- int(n), int(flag), int(text) -/
def bInt : List D → DH → Res D
  | [.int i], h => .ok (.int i) h
  | [.bl k], h => .ok (.int (if k then 1 else 0)) h
  | [.str a], h => if a.length ≤ 640 then (match PySem.intText? a with
    | some n => .ok (.int n) h
    | none => .bad) else .bad
  | _, _ => .bad
def rIntX : List V → Hp → VK → Prop := fun xs H Q => ((∃ i, xs = [.int i] ∧ Q (.int i) H) ∨ ∃ k, xs = [.bl k] ∧ Q (.int (if k then 1 else 0)) H) ∨ (∃ a n, xs = [.str a] ∧ PySem.intText? a = some n ∧ a.length ≤ 640 ∧ Q (.int n) H)
theorem call_intX {X : Cx} : CallR X (.type "int") rIntX := CallR.or call_int1 call_int_str
theorem cs_int : CallS K mg rIntX bInt := by
  intro ρ dh H ds vs Q W τ w rx p
  unfold bInt at p
  split at p
  · obtain ⟨v, rfl, r⟩ := rx.inv1
    cases r
    exact .inl (.inl ⟨_, rfl, same_val w (.int _) p⟩)
  · obtain ⟨v, rfl, r⟩ := rx.inv1
    cases r
    exact .inl (.inr ⟨_, rfl, same_val w (.int _) p⟩)
  · obtain ⟨v, rfl, r⟩ := rx.inv1
    cases r
    split at p
    · rename_i hl
      split at p
      · rename_i n e
        exact .inr ⟨_, n, rfl, e, hl, same_val w (.int _) p⟩
      · exact p.elim
    · exact p.elim
  · exact p.elim
/-- str(n) -/
def bStr : List D → DH → Res D
  | [.int i], h => if i.natAbs.log2 < 1920 then .ok (.str (toString i)) h else .bad
  | _, _ => .bad
theorem cs_str : CallS K mg (fun xs H Q => ∃ i, xs = [.int i] ∧ i.natAbs.log2 < 1920 ∧ Q (.str (toString i)) H) bStr := by
  intro ρ dh H ds vs Q W τ w rx p
  unfold bStr at p
  split at p
  · obtain ⟨v, rfl, r⟩ := rx.inv1
    cases r
    split at p
    · rename_i hl
      exact ⟨_, rfl, hl, same_val w (.str _) p⟩
    · exact p.elim
  · exact p.elim
/-- list(x), tuple(x) -/
def bList : List D → DH → Res D
  | [.tup ds], h => .ok (.ref h.length) (h ++ [.lst ds])
  | [.rol ds], h => .ok (.ref h.length) (h ++ [.lst ds])
  | [.ref n], h => match h[n]? with
    | some (.lst ds) => .ok (.ref h.length) (h ++ [.lst ds])
    | _ => .bad
  | _, _ => .bad
theorem cs_list : CallS K mg (fun xs H Q => ∃ p ys, xs = [.ref p] ∧ (SqL K H p ys ∨ SqT K H p ys) ∧ ∀ l, H l = none → Q (.ref l) (upd H l (.lst ys))) bList := by
  intro ρ dh H ds vs Q W τ w rx p
  unfold bList at p
  split at p
  · obtain ⟨v, rfl, r⟩ := rx.inv1
    cases r with
    | tup t r => exact ⟨_, _, rfl, .inr t.sq, new_lst w r p⟩
  · obtain ⟨v, rfl, r⟩ := rx.inv1
    cases r with
    | rol t r => exact ⟨_, _, rfl, .inl t.sq, new_lst w r p⟩
  · obtain ⟨v, rfl, r⟩ := rx.inv1
    cases r with
    | ref ha =>
      split at p
      · rename_i ds hk
        obtain ⟨xs, hx, r⟩ := cell_lst w hk ha
        exact ⟨_, _, rfl, .inl (SqL.of hx), new_lst w r p⟩
      · exact p.elim
  · exact p.elim
def bTuple : List D → DH → Res D
  | [.tup ds], h => .ok (.tup ds) h
  | [.rol ds], h => .ok (.tup ds) h
  | [.ref n], h => match h[n]? with
    | some (.lst ds) => .ok (.tup ds) h
    | _ => .bad
  | _, _ => .bad
theorem cs_tuple : CallS K mg (fun xs H Q => ∃ p ys, xs = [.ref p] ∧ ((SqL K H p ys ∧ NewT H Q ys) ∨ (SqT K H p ys ∧ Q (.ref p) H))) bTuple := by
  intro ρ dh H ds vs Q W τ w rx p
  unfold bTuple at p
  split at p
  · obtain ⟨v, rfl, r⟩ := rx.inv1
    cases r with
    | tup t r => exact ⟨_, _, rfl, .inr ⟨t.sq, same_val w (.tup t r) p⟩⟩
  · obtain ⟨v, rfl, r⟩ := rx.inv1
    cases r with
    | rol t r => exact ⟨_, _, rfl, .inl ⟨t.sq, new_tup w r p⟩⟩
  · obtain ⟨v, rfl, r⟩ := rx.inv1
    cases r with
    | ref ha =>
      split at p
      · rename_i ds hk
        obtain ⟨xs, hx, r⟩ := cell_lst w hk ha
        exact ⟨_, _, rfl, .inl ⟨SqL.of hx, new_tup w r p⟩⟩
      · exact p.elim
  · exact p.elim
end
end DL

/-! The data layer: isinstance, methods of built-in types, statements, loops, calls of defs, the def's rule. -/
namespace DL
open PySem PySem.Spec L2
open PyProof.Rows hiding St

/-! ### isinstance(x, T), T a built-in type -/
inductive TN where
  | non | bl | int | str | tup | lst | dic
  | own (c : Str)
def TN.s : TN → String
  | .non => "NoneType" | .bl => "bool" | .int => "int" | .str => "str" | .tup => "tuple" | .lst => "list" | .dic => "dict"
  | .own _ => ""
def tyD (h : DH) : D → Option TN
  | .non => some .non
  | .bl _ => some .bl
  | .int _ => some .int
  | .str _ => some .str
  | .tup _ => some .tup
  | .rol _ => some .lst
  | .ref n => match h[n]? with
    | some (.lst _) => some .lst
    | some (.dic _) => some .dic
    | some (.ldic _) => some .dic
    | some (.obj c _) => some (.own c)
    | none => none
/-- T takes a value of type t -/
def TN.has : TN → TN → Option Bool
  | .own _, _ => none
  | _, .own _ => none
  | .bl, .bl => some true
  | .int, .int => some true
  | .int, .bl => some true
  | .str, .str => some true
  | .tup, .tup => some true
  | .lst, .lst => some true
  | .dic, .dic => some true
  | .non, .non => some true
  | _, _ => some false
def TN.known : List TN := [.bl, .int, .str, .tup, .lst, .dic]
theorem kit_has {T t : TN} {b : Bool} (hT : T.s ∈ ["bool", "int", "str", "tuple", "list", "dict"]) (h : T.has t = some b) : kitB t.s T.s = some b := by
  cases T <;> first | (exact absurd hT (by decide)) | skip
  all_goals (clear hT; cases t)
  all_goals first
    | (have e := Option.some.inj h
       subst e
       decide +kernel)
    | cases h
theorem tyX_of {K : PySem.W.Frag} {mg : Str → Option Value} {ρ : List Addr} {H : Hp} {dh : DH} {x : D} {v : V} {t : TN} (w : Wd K mg ρ dh H) (r : Rep K ρ H x v) (e : tyD dh x = some t) (ho : ∀ c, t ≠ .own c) : TyX K H v (.type t.s) := by
  cases r with
  | non => cases e; exact .base .non
  | bl b => cases e; exact .base (.bl b)
  | int i => cases e; exact .base (.int i)
  | str x => cases e; exact .base (.str x)
  | tup t r =>
    cases e
    rcases t with ⟨o, h, _, _⟩ | ⟨o, its, n, h1, h2, _⟩
    · exact .fTuple h
    · exact .kTuple h1 h2
  | rol t r =>
    cases e
    rcases t with ⟨o, h⟩ | ⟨o, its, n, h1, h2, _⟩
    · exact .base (.frz h)
    · exact .kList h1 h2
  | ref ha =>
    simp only [tyD] at e
    split at e
    · rename_i ds hk
      cases e
      obtain ⟨xs, h1, _⟩ := w.cellAt hk ha
      exact .base (.lst h1)
    · rename_i ds hk
      cases e
      obtain ⟨xs, h1, _⟩ := w.cellAt hk ha
      exact .base (.dK h1)
    · rename_i ds hk
      cases e
      obtain ⟨o, xs, h1, _⟩ := w.cellAt hk ha
      exact .fDict h1
    · cases e
      exact absurd rfl (ho _)
    · cases e
def dIs (T : TN) (f : FE) : FE := dUn (fun x h => match tyD h x with
  | some t => match T.has t with
    | some b => .ok (.bl b) h
    | none => .bad
  | none => .bad) f
theorem de_is {X : Cx} {W : WX} {e : Expr} {f : FE} {y : Str} {p p2 pos : Pos} (T : TN) (hT : T.s ∈ ["bool", "int", "str", "tuple", "list", "dict"] := by decide) (hm : X.mg "isinstance" = none) (hm2 : X.mg y = none) (he : PE X e (rE X.K X.mg W f)) (hg : Gl X "isinstance" := by rfl) (hg2 : Gl X y := by rfl)
    (hy : bootBuiltins y = some (.type T.s) := by decide +kernel) (hn : y ≠ "__name__" := by decide) (hdb : (y == ("__debug__" : Str)) = false := by decide)
    (hs : starEach (e :: [.Name y p2]) X.env = (false, eval e X.env) :: starEach [.Name y p2] X.env := by rfl) (hs2 : starEach [.Name y p2] X.env = (false, eval (.Name y p2) X.env) :: starEach [] X.env := by rfl) (hpl : (backTo pos (starEach [.Name y p2] X.env)).any (·.1) = false := by rfl) :
    PE X (.Call (.Name "isinstance" p) [e, .Name y p2] [] pos) (rE X.K X.mg W (dIs T f)) := by
  refine PE.weak (pe_callB call_isi hg hm (by decide +kernel) (pa_cons he (pa_cons (pe_bltn (v := .ty T.s) hg2 hm2 hy rfl hn hdb) pa_nil hs2) hs) (by decide) (by decide) hs hpl) fun τ H Q h => ?_
  refine rd_one (r := fun v H Q => rIsi X.K [v, .ty T.s] H Q) (fun ρ dh H x v Q W τ w rx p => ?_) h
  split at p
  · rename_i t e1
    split at p
    · rename_i b e2
      have ho : ∀ c, t ≠ .own c := fun c z => by
        subst z
        cases T <;> cases e2
      exact ⟨_, _, _, _, b, rfl, .ty _, tyX_of w rx e1 ho, kit_ty (kit_has hT e2), same_val w (.bl _) p⟩
    · exact p.elim
  · exact p.elim

/-! ### methods of built-in types -/
/-- the receiver is of the type -/
def rcvD (T : String) (h : DH) : D → Bool
  | .str _ => T == "str"
  | .rol _ => T == "list"
  | .ref n => match h[n]? with
    | some (.lst _) => T == "list"
    | some (.dic _) => T == "dict"
    | _ => false
  | _ => false
theorem rcv_ty {K : PySem.W.Frag} {mg : Str → Option Value} {ρ : List Addr} {H : Hp} {dh : DH} {x : D} {v : V} {T : String} (w : Wd K mg ρ dh H) (r : Rep K ρ H x v) (e : rcvD T dh x = true) : tyV K T v H := by
  cases r with
  | str x => exact beq_iff_eq.mp e
  | rol t r => exact .inl ⟨beq_iff_eq.mp e, _, t.sq⟩
  | ref ha =>
    simp only [rcvD] at e
    split at e
    · rename_i ds hk
      obtain ⟨xs, h1, _⟩ := w.cellAt hk ha
      exact .inl ⟨beq_iff_eq.mp e, _, SqL.of h1⟩
    · rename_i ds hk
      obtain ⟨xs, h1, _⟩ := w.cellAt hk ha
      exact .inr (.inr (.inl ⟨beq_iff_eq.mp e, .inl ⟨_, h1⟩⟩))
    · cases e
  | _ => cases e
def MetS (K : PySem.W.Frag) (mg : Str → Option Value) (r : V → List V → Hp → VK → Prop) (m : D → List D → DH → Res D) : Prop :=
  ∀ (ρ : List Addr) (dh : DH) (H : Hp) (x : D) (v : V) (ds : List D) (vs : List V) (Q : VK) (W : WX) (τ : L2.St), Wd K mg ρ dh H → Rep K ρ H x v → RepL K ρ H ds vs → Pst K mg (Rep K) W τ ρ H Q (m x ds dh) → r v vs H Q
def dBM (T : String) (m : D → List D → DH → Res D) (fo : FE) (g : FA) : FE := fun σ h => (fo σ h).bind fun x h1 => if rcvD T h1 x = true then (g σ h1).bind fun xs h2 => m x xs h2 else .bad
section
variable {X : Cx} {W : WX} {o e : Expr} {es : List Expr} {fo : FE} {g : FA} {name : Str} {apos cpos : Pos} {T id : String} {r : V → List V → Hp → VK → Prop} {m : D → List D → DH → Res D}
theorem de_bm (hm : MtR X id r) (ms : MetS X.K X.mg r m) (pa : PlainAttrs T) (slot : Slot T name id) (hty : typeOf (.builtin id) = pure (.type "method_descriptor")) (ho : PE X o (rE X.K X.mg W fo)) (ha : PA X (e :: es) (rA X.K X.mg W g))
    (hbase : attributeBase o name X.env (eval o X.env) = eval o X.env := by rfl)
    (hfew : ((backTo cpos (starEach (e :: es) X.env)).all (fun x => !x.1) && (backToKw cpos (keywordEach [] X.env)).all (fun x => x.1.isSome) && decide ((e :: es).length + ([] : List Keyword).length + (if ([] : List Keyword).isEmpty then 0 else 1) < 30)) = true := by rfl)
    (hline : (apos.endLine == cpos.line) = true := by rfl) (hs : starEach (e :: es) X.env = (false, eval e X.env) :: starEach es X.env := by rfl) (hplain : (backTo cpos (starEach es X.env)).any (·.1) = false := by rfl) :
    PE X (.Call (.Attribute o name apos) (e :: es) [] cpos) (rE X.K X.mg W (dBM T m fo g)) := by
  refine PE.weak (pe_bm pa slot hty hm ho ha hbase hfew hline hs hplain) fun τ H Q h => ?_
  obtain ⟨σ, dh, ρ, w, s, p⟩ := h
  refine ⟨σ, dh, ρ, w, s, ?_⟩
  refine Pst.mono (Pst.bind (R := Rep X.K) p) ?_
  rintro v H1 ⟨x, h1, ρ1, g1, w1, rx, p1⟩
  split at p1
  · rename_i hr
    refine ⟨rcv_ty w1 rx hr, σ, h1, ρ1, w1, s.grow g1, ?_⟩
    refine Pst.mono (Pst.bind (R := RepL X.K) p1) ?_
    rintro vs H2 ⟨xs, h2, ρ2, g2, w2, rxs, p2⟩
    exact ms ρ2 h2 H2 x v xs vs Q W τ w2 (rx.grow g2) rxs p2
  · exact p1.elim
theorem de_bm0 (hm : MtR X id r) (ms : MetS X.K X.mg r m) (pa : PlainAttrs T) (slot : Slot T name id) (hty : typeOf (.builtin id) = pure (.type "method_descriptor")) (ho : PE X o (rE X.K X.mg W fo))
    (hbase : attributeBase o name X.env (eval o X.env) = eval o X.env := by rfl) (hline : (apos.endLine == cpos.line) = true := by rfl) :
    PE X (.Call (.Attribute o name apos) [] [] cpos) (rE X.K X.mg W (dBM T m fo dNil)) := by
  refine PE.weak (pe_bm0 pa slot hty hm ho hbase hline) fun τ H Q h => ?_
  obtain ⟨σ, dh, ρ, w, s, p⟩ := h
  refine ⟨σ, dh, ρ, w, s, ?_⟩
  refine Pst.mono (Pst.bind (R := Rep X.K) p) ?_
  rintro v H1 ⟨x, h1, ρ1, g1, w1, rx, p1⟩
  split at p1
  · rename_i hr
    exact ⟨rcv_ty w1 rx hr, ms ρ1 h1 H1 x v [] [] Q W τ w1 rx .nil p1⟩
  · exact p1.elim
end
section
variable {K : PySem.W.Frag} {mg : Str → Option Value}
/-- xs.append(y) -/
def mAppend : D → List D → DH → Res D
  | .ref n, [y], h => match h[n]? with
    | some (.lst ds) => if ds.length < 16777216 then .ok .non (h.set n (.lst (ds ++ [y]))) else .bad
    | _ => .bad
  | _, _, _ => .bad
theorem ms_append : MetS K mg rAppend mAppend := by
  intro ρ dh H x v ds vs Q W τ w rx rs p
  unfold mAppend at p
  split at p
  · obtain ⟨u, rfl, ry⟩ := rs.inv1
    cases rx with
    | ref ha =>
      split at p
      · rename_i es hk
        split at p
        · rename_i hl
          obtain ⟨xs, hx, r⟩ := cell_lst w hk ha
          exact ⟨_, xs, u, rfl, rfl, hx, size_lt (by rw [← r.length]; exact hl), put_lst (es := es) w ha hx (r.append (.one ry)) .non p⟩
        · exact p.elim
      · exact p.elim
  · exact p.elim
/-- xs.pop() -/
def mPop : D → List D → DH → Res D
  | .ref n, [], h => match h[n]? with
    | some (.lst ds) => match ds[ds.length - 1]? with
      | some y => .ok y (h.set n (.lst ds.dropLast))
      | none => .bad
    | _ => .bad
  | .ref n, [.int i], h => match h[n]? with
    | some (.lst ds) => if -(2 ^ 62) ≤ i ∧ i < 2 ^ 62 then (match seqIndex? i ds.length with
      | some k => match ds[k]? with
        | some y => .ok y (h.set n (.lst (ds.eraseIdx k)))
        | none => .bad
      | none => .bad) else .bad
    | _ => .bad
  | _, _, _ => .bad
def rPopX : V → List V → Hp → VK → Prop := fun x xs H Q => rPop x xs H Q ∨ rPopAt x xs H Q
theorem mt_popX {X : Cx} : MtR X "list.pop" rPopX := MtR.or mt_pop mt_popAt
theorem ms_pop : MetS K mg rPopX mPop := by
  intro ρ dh H x v ds vs Q W τ w rx rs p
  unfold mPop at p
  split at p
  · cases rs
    cases rx with
    | ref ha =>
      split at p
      · rename_i es hk
        obtain ⟨xs, hx, r⟩ := cell_lst w hk ha
        split at p
        · rename_i y e
          obtain ⟨u, h1, h2⟩ := r.get e
          exact .inl ⟨_, xs, u, rfl, rfl, hx, by rw [← r.length]; exact h1, put_lst (es := es) w ha hx r.dropLast h2 p⟩
        · exact p.elim
      · exact p.elim
  · obtain ⟨u, rfl, ry⟩ := rs.inv1
    cases ry
    cases rx with
    | ref ha =>
      split at p
      · rename_i es hk
        obtain ⟨xs, hx, r⟩ := cell_lst w hk ha
        split at p
        · rename_i hb
          split at p
          · rename_i k hk2
            split at p
            · rename_i y e
              obtain ⟨u, h1, h2⟩ := r.get e
              exact .inr ⟨_, xs, _, k, u, rfl, rfl, hx, by omega, by omega, by rw [← r.length]; exact hk2, h1, put_lst (es := es) w ha hx (r.eraseIdx k) h2 p⟩
            · exact p.elim
          · exact p.elim
        · exact p.elim
      · exact p.elim
  · exact p.elim
/-- xs.reverse(), xs.clear() -/
def mReverse : D → List D → DH → Res D
  | .ref n, [], h => match h[n]? with
    | some (.lst ds) => .ok .non (h.set n (.lst ds.reverse))
    | _ => .bad
  | _, _, _ => .bad
theorem ms_reverse : MetS K mg rReverse mReverse := by
  intro ρ dh H x v ds vs Q W τ w rx rs p
  unfold mReverse at p
  split at p
  · cases rs
    cases rx with
    | ref ha =>
      split at p
      · rename_i es hk
        obtain ⟨xs, hx, r⟩ := cell_lst w hk ha
        exact ⟨_, xs, rfl, rfl, hx, put_lst (es := es) w ha hx r.reverse .non p⟩
      · exact p.elim
  · exact p.elim
def mClear : D → List D → DH → Res D
  | .ref n, [], h => match h[n]? with
    | some (.lst _) => .ok .non (h.set n (.lst []))
    | _ => .bad
  | _, _, _ => .bad
theorem ms_clear : MetS K mg rClear mClear := by
  intro ρ dh H x v ds vs Q W τ w rx rs p
  unfold mClear at p
  split at p
  · cases rs
    cases rx with
    | ref ha =>
      split at p
      · rename_i es hk
        obtain ⟨xs, hx, r⟩ := cell_lst w hk ha
        exact ⟨_, xs, rfl, rfl, hx, put_lst (es := es) w ha hx .nil .non p⟩
      · exact p.elim
  · exact p.elim
/-- sep.join(xs) -/
def strsD : List D → Option (List Str)
  | [] => some []
  | .str x :: r => (strsD r).map (x :: ·)
  | _ :: _ => none
theorem strsD_rep {ρ : List Addr} {H : Hp} : ∀ {ds : List D} {vs : List V} {xs : List Str}, RepL K ρ H ds vs → strsD ds = some xs → vs = xs.map V.str
  | _, _, _, .nil, e => by cases e; rfl
  | _, _, _, .cons h r, e => by
    cases h <;> simp only [strsD] at e <;> first | cases e | skip
    obtain ⟨ys, e1, rfl⟩ := Option.map_eq_some_iff.mp e
    rw [strsD_rep r e1]
    rfl
def itemsD (h : DH) : D → Option (List D)
  | .tup ds => some ds
  | .rol ds => some ds
  | .ref n => match h[n]? with
    | some (.lst ds) => some ds
    | _ => none
  | _ => none
theorem itemsD_rep {ρ : List Addr} {H : Hp} {dh : DH} {x : D} {v : V} {ds : List D} (w : Wd K mg ρ dh H) (r : Rep K ρ H x v) (e : itemsD dh x = some ds) : ∃ a xs, v = .ref a ∧ (SqL K H a xs ∨ SqT K H a xs) ∧ RepL K ρ H ds xs := by
  cases r with
  | tup t r => cases e; exact ⟨_, _, rfl, .inr t.sq, r⟩
  | rol t r => cases e; exact ⟨_, _, rfl, .inl t.sq, r⟩
  | ref ha =>
    simp only [itemsD] at e
    split at e
    · rename_i es hk
      cases e
      obtain ⟨xs, hx, r⟩ := cell_lst w hk ha
      exact ⟨_, _, rfl, .inl (SqL.of hx), r⟩
    · cases e
  | _ => cases e
end

/-! ### what a statement gives -/
inductive RS where
  | nx (σ : DE) (h : DH)
  | rt (d : D) (h : DH)
  | bk (σ : DE) (h : DH)
  | ct (σ : DE) (h : DH)
  | exc (e : Exv) (σ : DE) (h : DH)
  | bad
abbrev FS := DE → DH → RS
def PstS (K : PySem.W.Frag) (mg : Str → Option Value) (W : WX) (ρ : List Addr) (H : Hp) (D : Ends) : RS → Prop
  | .nx σ dh => ∀ ρ' H' τ', Grow ρ H ρ' H' → Wd K mg ρ' dh H' → RepS K ρ' H' σ τ' → D.nx τ' H'
  | .rt d dh => ∀ ρ' H' v, Grow ρ H ρ' H' → Wd K mg ρ' dh H' → Rep K ρ' H' d v → D.rt v H'
  | .bk σ dh => ∀ ρ' H' τ', Grow ρ H ρ' H' → Wd K mg ρ' dh H' → RepS K ρ' H' σ τ' → D.bk τ' H'
  | .ct σ dh => ∀ ρ' H' τ', Grow ρ H ρ' H' → Wd K mg ρ' dh H' → RepS K ρ' H' σ τ' → D.ct τ' H'
  | .exc e σ dh => ∀ ρ' H' τ' c o, Grow ρ H ρ' H' → Wd K mg ρ' dh H' → RepS K ρ' H' σ τ' → ExcRep K mg ρ' H' e c o → W c o τ' H'
  | .bad => False
def rS (K : PySem.W.Frag) (mg : Str → Option Value) (W : WX) (f : FS) : TS := fun D τ H => ∃ σ dh ρ, Wd K mg ρ dh H ∧ RepS K ρ H σ τ ∧ PstS K mg W ρ H D (f σ dh)
def dThen {α : Type} (f : DE → DH → Res α) (k : α → FS) : FS := fun σ h => match f σ h with
  | .ok x h1 => k x σ h1
  | .exc e h1 => .exc e σ h1
  | .bad => .bad
def dSkip : FS := fun σ h => .nx σ h
def dSeq (f g : FS) : FS := fun σ h => match f σ h with
  | .nx σ1 h1 => g σ1 h1
  | r => r
def dRet (f : FE) : FS := dThen f fun d _ h => .rt d h
def dDrop (f : FE) : FS := dThen f fun _ σ h => .nx σ h
def dSet (i : Nat) (f : FE) : FS := dThen f fun d σ h => .nx (σ.set i (some d)) h
def dIf (c : FT) (f g : FS) : FS := dThen c fun b σ h => if b = true then f σ h else g σ h
def dBreak : FS := fun σ h => .bk σ h
def dCont : FS := fun σ h => .ct σ h
def dNever : FS := fun _ _ => .bad
section
variable {α β : Type} {K : PySem.W.Frag} {mg : Str → Option Value} {R : List Addr → Hp → α → β → Prop} {W : WX} {τ : L2.St} {ρ ρ' : List Addr} {H H' : Hp} {E : Ends} {dh : DH} {σ : DE}
theorem PstS.grow {r : RS} (g : Grow ρ H ρ' H') (p : PstS K mg W ρ H E r) : PstS K mg W ρ' H' E r := by
  cases r with
  | nx σ dh => exact fun _ _ _ g' => p _ _ _ (g.trans g')
  | rt d dh => exact fun _ _ _ g' => p _ _ _ (g.trans g')
  | bk σ dh => exact fun _ _ _ g' => p _ _ _ (g.trans g')
  | ct σ dh => exact fun _ _ _ g' => p _ _ _ (g.trans g')
  | exc e σ dh => exact fun _ _ _ _ _ g' => p _ _ _ _ _ (g.trans g')
  | bad => exact p
theorem PstS.mono {r : RS} {E' : Ends} (p : PstS K mg W ρ H E r) (h1 : ∀ τ H', E.nx τ H' → E'.nx τ H') (h2 : ∀ v H', E.rt v H' → E'.rt v H') (h3 : ∀ τ H', E.bk τ H' → E'.bk τ H') (h4 : ∀ τ H', E.ct τ H' → E'.ct τ H') : PstS K mg W ρ H E' r := by
  cases r with
  | nx σ dh => exact fun _ _ _ a b c => h1 _ _ (p _ _ _ a b c)
  | rt d dh => exact fun _ _ _ a b c => h2 _ _ (p _ _ _ a b c)
  | bk σ dh => exact fun _ _ _ a b c => h3 _ _ (p _ _ _ a b c)
  | ct σ dh => exact fun _ _ _ a b c => h4 _ _ (p _ _ _ a b c)
  | exc e σ dh => exact p
  | bad => exact p
theorem rS_then {f : DE → DH → Res α} {k : α → FS} (r : rS K mg W (dThen f k) E τ H) :
    rd K mg R W f τ H fun b H1 => ∃ x σ dh ρ, Wd K mg ρ dh H1 ∧ RepS K ρ H1 σ τ ∧ R ρ H1 x b ∧ PstS K mg W ρ H1 E (k x σ dh) := by
  obtain ⟨σ, dh, ρ, w, s, p⟩ := r
  refine ⟨σ, dh, ρ, w, s, ?_⟩
  unfold dThen at p
  cases e : f σ dh with
  | ok x h1 =>
    simp only [e] at p
    exact fun ρ1 H1 v g1 w1 rx => ⟨x, σ, h1, ρ1, w1, s.grow g1, rx, p.grow g1⟩
  | exc x h1 =>
    simp only [e] at p
    exact fun ρ1 H1 c o g1 w1 re => p _ _ _ _ _ g1 w1 (s.grow g1) re
  | bad =>
    simp only [e] at p
    exact p
end
section
variable {X : Cx} {W : WX} {st : Stmt} {rest sa sb : List Stmt} {e c : Expr} {pos : Pos} {f g : FS} {fe : FE}
theorem dss_nil : PSs X [] (rS X.K X.mg W dSkip) := PSs.weak pss_nil fun _ _ _ ⟨_, _, _, w, s, p⟩ => p _ _ _ (Grow.refl _ _) w s
theorem dss_cons (h1 : PS X st (rS X.K X.mg W f)) (h2 : PSs X rest (rS X.K X.mg W g)) : PSs X (st :: rest) (rS X.K X.mg W (dSeq f g)) := by
  refine PSs.weak (pss_cons h1 h2) fun D τ H h => ?_
  obtain ⟨σ, dh, ρ, w, s, p⟩ := h
  refine ⟨σ, dh, ρ, w, s, ?_⟩
  unfold dSeq at p
  cases e : f σ dh with
  | nx σ1 h1 =>
    simp only [e] at p
    exact fun ρ1 H1 τ1 g1 w1 s1 => ⟨σ1, h1, ρ1, w1, s1, p.grow g1⟩
  | rt d h1 => simp only [e] at p; exact p
  | bk σ1 h1 => simp only [e] at p; exact p
  | ct σ1 h1 => simp only [e] at p; exact p
  | exc x σ1 h1 => simp only [e] at p; exact p
  | bad => simp only [e] at p; exact p
theorem dss_one (h1 : PS X st (rS X.K X.mg W f)) : PSs X [st] (rS X.K X.mg W f) := pss_one h1
theorem ds_ret (h : PE X e (rE X.K X.mg W fe)) : PS X (.Return (some e) pos) (rS X.K X.mg W (dRet fe)) := by
  refine PS.weak (ps_ret h) fun D τ H r => ?_
  refine rd.mono (fun v H1 => ?_) (rS_then (R := Rep X.K) r)
  rintro ⟨x, σ, dh, ρ, w, s, rx, p⟩
  exact p _ _ _ (Grow.refl _ _) w rx
theorem ds_expr (h : PE X e (rE X.K X.mg W fe)) (hs : swapsWith e none pos.line X.env = pure false := by rfl) : PS X (.Expr e pos) (rS X.K X.mg W (dDrop fe)) := by
  refine PS.weak (ps_expr h hs) fun D τ H r => ?_
  refine rd.mono (fun v H1 => ?_) (rS_then (R := Rep X.K) r)
  rintro ⟨x, σ, dh, ρ, w, s, rx, p⟩
  exact p _ _ _ (Grow.refl _ _) w s
theorem ds_set {x : Str} {pos' : Pos} (i : Nat) (hN : X.N.Nodup) (h : PE X e (rE X.K X.mg W fe)) (hi : X.N[i]? = some x := by rfl) (hx : Loc X.env.scope x := by first | exact Or.inl rfl | exact Or.inr rfl) (hs : swapsWith e (some (.Name x pos')) pos.line X.env = pure false := by rfl)
    (hf : X.fn x = true ∨ X.env.scope.names.lookup x = some .local := by first | exact .inl rfl | exact .inr rfl) : PS X (.Assign [.Name x pos'] e pos) (rS X.K X.mg W (dSet i fe)) := by
  refine PS.weak (ps_set hN hi hx h hs hf) fun D τ H r => ?_
  refine rd.mono (fun v H1 => ?_) (rS_then (R := Rep X.K) r)
  rintro ⟨x, σ, dh, ρ, w, s, rx, p⟩
  exact p _ _ _ (Grow.refl _ _) w (s.set rx i)
theorem ds_if {t : FT} (hc : PT X c (rT X.K X.mg W t)) (ha : PSs X sa (rS X.K X.mg W f)) (hb : PSs X sb (rS X.K X.mg W g)) : PS X (.If c sa sb pos) (rS X.K X.mg W (dIf t f g)) := by
  refine PS.weak (ps_if hc ha hb) fun D τ H r => ?_
  refine rd.mono (fun b H1 => ?_) (rS_then (R := fun _ _ a b => a = b) r)
  rintro ⟨x, σ, dh, ρ, w, s, rfl, p⟩
  cases x
  · rw [if_neg Bool.false_ne_true] at p ⊢
    exact ⟨σ, dh, ρ, w, s, p⟩
  · rw [if_pos rfl] at p ⊢
    exact ⟨σ, dh, ρ, w, s, p⟩
theorem ds_pass : PS X (.Pass pos) (rS X.K X.mg W dSkip) := PS.weak ps_pass fun _ _ _ ⟨_, _, _, w, s, p⟩ => p _ _ _ (Grow.refl _ _) w s
theorem ds_break : PS X (.Break pos) (rS X.K X.mg W dBreak) := PS.weak ps_break fun _ _ _ ⟨_, _, _, w, s, p⟩ => p _ _ _ (Grow.refl _ _) w s
theorem ds_continue : PS X (.Continue pos) (rS X.K X.mg W dCont) := PS.weak ps_continue fun _ _ _ ⟨_, _, _, w, s, p⟩ => p _ _ _ (Grow.refl _ _) w s
theorem ds_never : PS X st (rS X.K X.mg W dNever) := PS.weak ps_never fun _ _ _ ⟨_, _, _, _, _, p⟩ => p
theorem dss_never {sts : List Stmt} : PSs X sts (rS X.K X.mg W dNever) := PSs.weak pss_never fun _ _ _ ⟨_, _, _, _, _, p⟩ => p
/-- name op= e -/
def dAug (i : Nat) (op : D → D → DH → Res D) (f : FE) : FS := dThen (dBin op (dVar i) f) fun d σ h => .nx (σ.set i (some d)) h
theorem ds_aug {op : Operator} {dop : D → D → DH → Res D} {r : R2} {x : Str} {pos' : Pos} (i : Nat) (hN : X.N.Nodup) (ho : OpR X (inplaceOp op) r) (hs : OpS X.K X.mg r dop) (h : PE X e (rE X.K X.mg W fe)) (hi : X.N[i]? = some x := by rfl) (hx : Loc X.env.scope x := by first | exact Or.inl rfl | exact Or.inr rfl)
    (hf : X.fn x = true ∨ X.env.scope.names.lookup x = some .local := by first | exact .inl rfl | exact .inr rfl) : PS X (.AugAssign (.Name x pos') op e pos) (rS X.K X.mg W (dAug i dop fe)) := by
  refine PS.weak (ps_aug (ti := r) hN hi hx h ho hf) fun D τ H q => ?_
  have q2 : rE X.K X.mg W (dBin dop (dVar i) fe) τ H fun z H3 => D.nx (τ.set i (some z)) H3 := by
    refine rd.mono (fun v H1 => ?_) (rS_then (R := Rep X.K) q)
    rintro ⟨x, σ, dh, ρ, w, s, rx, p⟩
    exact p _ _ _ (Grow.refl _ _) w (s.set rx i)
  exact rd_var (rd_two hs q2)
end
end DL

/-! The data layer: targets, what is walked, for, while, list comprehensions, calls of defs, the def's rule. -/
namespace DL
open PySem PySem.Spec L2
open PyProof.Rows hiding St

/-! ### targets -/
abbrev DG := D → DE → Option DE
abbrev DGs := List D → DE → Option DE
def gN (i : Nat) : DG := fun d σ => some (σ.set i (some d))
def gNilD : DGs := fun ds σ => match ds with
  | [] => some σ
  | _ => none
def gConsD (g : DG) (gs : DGs) : DGs := fun ds σ => match ds with
  | [] => none
  | d :: r => match g d σ with
    | some σ1 => gs r σ1
    | none => none
def gT (gs : DGs) : DG := fun d σ => match d with
  | .tup ds => gs ds σ
  | _ => none
/-- a tuple, however it is tracked -/
def RepW (K : PySem.W.Frag) (ρ : List Addr) (H : Hp) (d : D) (v : V) : Prop := ∃ ds a xs, d = .tup ds ∧ v = .ref a ∧ SqT K H a xs ∧ RepL K ρ H ds xs
theorem RepW.of {K : PySem.W.Frag} {ρ : List Addr} {H : Hp} {ds : List D} {v : V} (r : Rep K ρ H (.tup ds) v) : RepW K ρ H (.tup ds) v := by
  cases r with
  | tup t r => exact ⟨_, _, _, rfl, rfl, t.sq, r⟩
/-- but at the slots L all is as it was -/
def Off (L : List Nat) (τ τ' : L2.St) : Prop := τ'.length = τ.length ∧ ∀ k, k ∉ L → τ'[k]? = τ[k]?
theorem Off.set {τ : L2.St} {i : Nat} {o : Option V} : Off [i] τ (τ.set i o) := ⟨List.length_set .., fun k hk => by rw [List.getElem?_set_ne (fun e => hk (by rw [e]; exact List.mem_singleton.mpr rfl))]⟩
theorem Off.refl {L : List Nat} {τ : L2.St} : Off L τ τ := ⟨rfl, fun _ _ => rfl⟩
theorem Off.seq {L L' : List Nat} {τ τ1 τ2 : L2.St} (a : Off L τ τ1) (b : Off L' τ1 τ2) : Off (L ++ L') τ τ2 :=
  ⟨b.1.trans a.1, fun k hk => (b.2 k fun z => hk (List.mem_append_right _ z)).trans (a.2 k fun z => hk (List.mem_append_left _ z))⟩
theorem Off.mono {L L' : List Nat} {τ τ1 : L2.St} (a : Off L τ τ1) (h : ∀ k ∈ L, k ∈ L') : Off L' τ τ1 := ⟨a.1, fun k hk => a.2 k fun z => hk (h k z)⟩
theorem wipe_in {σ : L2.St} {k : Nat} : ∀ {vs : List Nat}, k ∈ vs → k < σ.length → (wipe σ vs)[k]? = some none
  | v :: vs, h, hl => by
    show ((wipe σ vs).set v none)[k]? = some none
    by_cases e : v = k
    · subst e
      rw [List.getElem?_set_self]
      rw [wipe_length]
      exact hl
    · rw [List.getElem?_set_ne e]
      exact wipe_in ((List.mem_cons.mp h).resolve_left fun z => e z.symm) hl
theorem Off.wipe {L : List Nat} {τ τ1 : L2.St} (a : Off L τ τ1) : L2.wipe τ1 L = L2.wipe τ L := by
  refine List.ext_getElem? fun k => ?_
  by_cases hk : k ∈ L
  · by_cases hl : k < τ.length
    · rw [wipe_in hk hl, wipe_in hk (by rw [a.1]; exact hl)]
    · rw [List.getElem?_eq_none_iff.mpr (by rw [wipe_length, a.1]; omega), List.getElem?_eq_none_iff.mpr (by rw [wipe_length]; omega)]
  · rw [wipe_out hk, wipe_out hk]
    exact a.2 k hk
def rG (K : PySem.W.Frag) (R : List Addr → Hp → D → V → Prop) (L : List Nat) (g : DG) : TG := fun v τ H Q => ∃ ρ d σ σ', R ρ H d v ∧ RepS K ρ H σ τ ∧ g d σ = some σ' ∧ ∀ τ', RepS K ρ H σ' τ' → Off L τ τ' → Q τ' H
def rGs (K : PySem.W.Frag) (L : List Nat) (g : DGs) : TGs := fun vs τ H Q => ∃ ρ ds σ σ', RepL K ρ H ds vs ∧ RepS K ρ H σ τ ∧ g ds σ = some σ' ∧ ∀ τ', RepS K ρ H σ' τ' → Off L τ τ' → Q τ' H
section
variable {X : Cx} {pos : Pos}
theorem PG.weak {e : Expr} {t t' : TG} (h : PG X e t) (w : ∀ v σ H Q, t' v σ H Q → t v σ H Q) : PG X e t' := ⟨fun pins s σ H v u Q I r q => h.run pins s σ H v u Q I r (w v σ H Q q)⟩
theorem PGs.weak {es : List Expr} {t t' : TGs} (h : PGs X es t) (w : ∀ v σ H Q, t' v σ H Q → t v σ H Q) : PGs X es t' := ⟨fun pins s σ H v u Q I r q => h.run pins s σ H v u Q I r (w v σ H Q q)⟩
theorem dg_name {x : Str} (i : Nat) (hN : X.N.Nodup) (hi : X.N[i]? = some x := by rfl) (hx : Loc X.env.scope x := by first | exact Or.inl rfl | exact Or.inr rfl) (hf : X.fn x = true ∨ X.env.scope.names.lookup x = some .local := by first | exact .inl rfl | exact .inr rfl) : PG X (.Name x pos) (rG X.K (Rep X.K) [i] (gN i)) := by
  refine PG.weak (pg_name hN hi hx hf) fun v τ H Q h => ?_
  obtain ⟨ρ, d, σ, σ', r, s, e, q⟩ := h
  cases e
  exact q _ (s.set r i) Off.set
theorem dgs_nil : PGs X [] (rGs X.K [] gNilD) := by
  refine PGs.weak pgs_nil fun vs τ H Q h => ?_
  obtain ⟨ρ, d, σ, σ', r, s, e, q⟩ := h
  cases r with
  | nil => cases e; exact ⟨rfl, q _ s Off.refl⟩
  | cons => cases e
theorem dgs_cons {e : Expr} {es : List Expr} {g : DG} {gs : DGs} {L L' : List Nat} (h1 : PG X e (rG X.K (Rep X.K) L g)) (h2 : PGs X es (rGs X.K L' gs)) (hs : (assignEach (e :: es) X.env).map (·.2) = assign e X.env :: (assignEach es X.env).map (·.2) := by rfl) : PGs X (e :: es) (rGs X.K (L ++ L') (gConsD g gs)) := by
  refine PGs.weak (pgs_cons h1 h2 hs) fun vs τ H Q h => ?_
  obtain ⟨ρ, d, σ, σ', r, s, e, q⟩ := h
  cases r with
  | nil => cases e
  | @cons d ds v vs r1 r2 =>
    simp only [gConsD] at e
    split at e
    · rename_i σ1 e1
      exact ⟨v, vs, rfl, ρ, d, σ, σ1, r1, s, e1, fun τ1 s1 o1 => ⟨ρ, ds, σ1, σ', r2, s1, e, fun τ2 s2 o2 => q τ2 s2 (o1.seq o2)⟩⟩
    · cases e
theorem dg_tupW {es : List Expr} {k n : Nat} {gs : DGs} {L : List Nat} (hc : X.calm = true) (h : PGs X es (rGs X.K L gs)) (hl : ∀ ds σ σ', gs ds σ = some σ' → ds.length = n) (hn : (assignEach es X.env).length = n := by rfl) (hst : (assignEach es X.env).findIdx? (·.1) = none := by rfl) :
    PG X (.Tuple es k pos) (rG X.K (RepW X.K) L (gT gs)) := by
  refine PG.weak (pg_tup hc h hn hst) fun v τ H Q h => ?_
  obtain ⟨ρ, d, σ, σ', ⟨ds, a, xs, rfl, rfl, t, r⟩, s, e, q⟩ := h
  exact ⟨a, xs, rfl, t, by rw [← r.length]; exact hl _ _ _ e, ρ, ds, σ, σ', r, s, e, q⟩
theorem dg_tup {es : List Expr} {k n : Nat} {gs : DGs} {L : List Nat} (hc : X.calm = true) (h : PGs X es (rGs X.K L gs)) (hl : ∀ ds σ σ', gs ds σ = some σ' → ds.length = n) (hn : (assignEach es X.env).length = n := by rfl) (hst : (assignEach es X.env).findIdx? (·.1) = none := by rfl) :
    PG X (.Tuple es k pos) (rG X.K (Rep X.K) L (gT gs)) := by
  refine PG.weak (dg_tupW hc h hl hn hst) fun v τ H Q h => ?_
  obtain ⟨ρ, d, σ, σ', r, s, e, q⟩ := h
  cases d with
  | tup ds => exact ⟨ρ, _, σ, σ', RepW.of r, s, e, q⟩
  | _ => cases e
end
theorem gl_nil : ∀ ds σ σ', gNilD ds σ = some σ' → ds.length = 0 := fun ds σ σ' e => by
  cases ds with
  | nil => rfl
  | cons => cases e
theorem gl_cons {g : DG} {gs : DGs} {n : Nat} (h : ∀ ds σ σ', gs ds σ = some σ' → ds.length = n) : ∀ ds σ σ', gConsD g gs ds σ = some σ' → ds.length = n + 1 := fun ds σ σ' e => by
  cases ds with
  | nil => cases e
  | cons d r =>
    simp only [gConsD] at e
    split at e
    · exact congrArg (· + 1) (h _ _ _ e)
    · cases e
/-- a, b = e -/
def dUnp (g : DG) (f : FE) : FS := dThen f fun d σ h => match g d σ with
  | some σ' => .nx σ' h
  | none => .bad
theorem ds_unp {X : Cx} {W : WX} {tg e : Expr} {g : DG} {L : List Nat} {fe : FE} {pos : Pos} (he : PE X e (rE X.K X.mg W fe)) (hg : PG X tg (rG X.K (Rep X.K) L g)) (hs : swapsWithSole [tg] e pos.line X.env = pure false := by rfl) (hw : swappedStores [tg] e X.env = pure none := by rfl)
    (h1 : (assignEach [tg] X.env).map (·.2) = [assign tg X.env] := by rfl) : PS X (.Assign [tg] e pos) (rS X.K X.mg W (dUnp g fe)) := by
  refine PS.weak (ps_asg he hg hs hw h1) fun D τ H r => ?_
  refine rd.mono (fun v H1 => ?_) (rS_then (R := Rep X.K) r)
  rintro ⟨x, σ, dh, ρ, w, s, rx, p⟩
  split at p
  · rename_i σ' e
    exact ⟨ρ, x, σ, σ', rx, s, e, fun τ' s' _ => p _ _ _ (Grow.refl _ _) w s'⟩
  · exact p.elim

/-! ### what is walked -/
structure Src where
  ds : List D
  keep : DH → Prop
def SrcOk (K : PySem.W.Frag) (mg : Str → Option Value) (R : List Addr → Hp → D → V → Prop) (ρ0 : List Addr) (H0 : Hp) (s : Src) (J : It) : Prop :=
  (∀ i d ρ dh H, s.ds[i]? = some d → Grow ρ0 H0 ρ H → Wd K mg ρ dh H → s.keep dh → J.go i H ∧ ∀ x H', J.yld i H x H' → Grow ρ H ρ H' ∧ Wd K mg ρ dh H' ∧ R ρ H' d x) ∧
  (∀ ρ dh H, Grow ρ0 H0 ρ H → Wd K mg ρ dh H → s.keep dh → J.stop s.ds.length H)
abbrev FI := DE → DH → Res Src
abbrev rI (K : PySem.W.Frag) (mg : Str → Option Value) (W : WX) (R : List Addr → Hp → D → V → Prop) (f : FI) : TI := rd K mg (SrcOk K mg R) W f
open Classical in
noncomputable def forL (keep : DH → Prop) (g : DG) (body : FS) : List D → FS
  | [] => fun σ h => if keep h then .nx σ h else .bad
  | d :: r => fun σ h => if keep h then (match g d σ with
    | some σ1 => match body σ1 h with
      | .nx σ2 h2 => forL keep g body r σ2 h2
      | .ct σ2 h2 => forL keep g body r σ2 h2
      | .bk σ2 h2 => .nx σ2 h2
      | x => x
    | none => .bad) else .bad
noncomputable def dFor (src : FI) (g : DG) (body : FS) : FS := dThen src fun s => forL s.keep g body s.ds
section
variable {X : Cx} {W : WX} {pos : Pos}
theorem ds_for {R : List Addr → Hp → D → V → Prop} {tg iter : Expr} {body : List Stmt} {f : FI} {g : DG} {L : List Nat} {fb : FS} (hp : PassesOwn (model X.prog X.w) X.A X.env X.xe) (hc : X.calm = true) (hi : PI X tg iter (rI X.K X.mg W R f)) (hg : PG X tg (rG X.K R L g)) (hb : PSs X body (rS X.K X.mg W fb))
    (hs : ∀ x, foldedSetIterable iter X.env x = pure x := by intro _; rfl) : PS X (.For tg iter body [] pos) (rS X.K X.mg W (dFor f g fb)) := by
  refine PS.weak (ps_for hp hc hi hg hb hs) fun D τ H r => ?_
  refine rd.mono (fun J H1 => ?_) (rS_then (R := SrcOk X.K X.mg R) r)
  rintro ⟨s, σ, dh, ρ, w, sσ, ⟨go, stop⟩, p⟩
  refine ⟨fun i m τ' H' => ∃ σ' dh' ρ', Grow ρ H1 ρ' H' ∧ Wd X.K X.mg ρ' dh' H' ∧ RepS X.K ρ' H' σ' τ' ∧ i + m = s.ds.length ∧ PstS X.K X.mg W ρ' H' D (forL s.keep g fb (s.ds.drop i) σ' dh'), ⟨s.ds.length, σ, dh, ρ, Grow.refl _ _, w, sσ, Nat.zero_add _, p⟩, fun i m τ' H' hW => ?_⟩
  obtain ⟨σ', dh', ρ', g', w', s', em, p'⟩ := hW
  cases e : s.ds[i]? with
  | none =>
    have hl : s.ds.length ≤ i := List.getElem?_eq_none_iff.mp e
    have hi2 : i = s.ds.length := by omega
    subst hi2
    rw [List.drop_length] at p'
    simp only [forL] at p'
    split at p'
    · rename_i hk
      exact .inl ⟨stop _ _ _ g' w' hk, p' _ _ _ (Grow.refl _ _) w' s'⟩
    · exact p'.elim
  | some d =>
    have hl : i < s.ds.length := (List.getElem?_eq_some_iff.mp e).1
    have hd : s.ds.drop i = d :: s.ds.drop (i + 1) := by
      rw [List.drop_eq_getElem_cons hl]
      rw [(List.getElem?_eq_some_iff.mp e).2]
    rw [hd] at p'
    simp only [forL] at p'
    split at p'
    · rename_i hk
      split at p'
      · rename_i σ1 eg
        obtain ⟨g1, y1⟩ := go i d _ _ _ e g' w' hk
        refine .inr ⟨g1, fun τ2 H2 => ∃ σ' dh' ρ', Grow ρ H1 ρ' H2 ∧ Wd X.K X.mg ρ' dh' H2 ∧ RepS X.K ρ' H2 σ' τ2 ∧ (i + 1) + (m - 1) = s.ds.length ∧ PstS X.K X.mg W ρ' H2 D (forL s.keep g fb (s.ds.drop (i + 1)) σ' dh'), fun τ2 H2 h2 => ⟨m - 1, by omega, h2⟩, fun x H2 hy => ?_⟩
        obtain ⟨g2, w2, r2⟩ := y1 x H2 hy
        refine ⟨ρ', d, σ', σ1, r2, s'.grow g2, eg, fun τ3 s3 _ => ⟨σ1, dh', ρ', w2, s3, ?_⟩⟩
        have gg := g'.trans g2
        have p2 := p'.grow g2
        cases eb : fb σ1 dh' with
        | nx σ2 h2 =>
          simp only [eb] at p2
          exact fun ρ4 H4 τ4 g4 w4 s4 => ⟨σ2, h2, ρ4, gg.trans g4, w4, s4, by omega, p2.grow g4⟩
        | ct σ2 h2 =>
          simp only [eb] at p2
          exact fun ρ4 H4 τ4 g4 w4 s4 => ⟨σ2, h2, ρ4, gg.trans g4, w4, s4, by omega, p2.grow g4⟩
        | bk σ2 h2 => simp only [eb] at p2; exact p2
        | rt d2 h2 => simp only [eb] at p2; exact p2
        | exc x2 σ2 h2 => simp only [eb] at p2; exact p2
        | bad => simp only [eb] at p2; exact p2
      · exact p'.elim
    · exact p'.elim
end
/-- a list or a tuple -/
def iterS (x : D) (h1 : DH) : Res Src := match itemsD h1 x with
  | some ds => .ok ⟨ds, fun h => itemsD h x = some ds⟩ h1
  | none => .bad
def dIter (f : FE) : FI := fun σ h => (f σ h).bind iterS
section
variable {X : Cx} {W : WX} {tg : Expr} {K : PySem.W.Frag} {mg : Str → Option Value}
/-- the items of a value at its turns -/
theorem src_any {ρ : List Addr} {H : Hp} {dh : DH} {x : D} {v : V} {ds : List D} (w : Wd K mg ρ dh H) (r : Rep K ρ H x v) (e : itemsD dh x = some ds) :
    ∃ a, v = .ref a ∧ ((∃ xs, SqL K H a xs) ∧ SrcOk K mg (Rep K) ρ H ⟨ds, fun h => itemsD h x = some ds⟩ (Itl K a) ∨ (∃ xs, SqT K H a xs) ∧ SrcOk K mg (Rep K) ρ H ⟨ds, fun h => itemsD h x = some ds⟩ (Itt K a)) := by
  cases r with
  | @tup es a xs t r =>
    cases e
    refine ⟨a, rfl, .inr ⟨⟨xs, t.sq⟩, fun i d ρ1 dh1 H1 hd g1 w1 _ => ?_, fun ρ1 dh1 H1 g1 w1 _ => ⟨xs, (g1.tp t).sq, by rw [← r.length]; exact Nat.le_refl _⟩⟩⟩
    obtain ⟨v, hv, rv⟩ := (r.grow g1).get hd
    refine ⟨⟨xs, v, (g1.tp t).sq, hv⟩, fun y H2 hy => ?_⟩
    obtain ⟨rfl, hy⟩ := hy
    have q := (hy xs (g1.tp t).sq).symm.trans hv
    cases q
    exact ⟨Grow.refl _ _, w1, rv⟩
  | @rol es a xs t r =>
    cases e
    refine ⟨a, rfl, .inl ⟨⟨xs, t.sq⟩, fun i d ρ1 dh1 H1 hd g1 w1 _ => ?_, fun ρ1 dh1 H1 g1 w1 _ => ⟨xs, (g1.rl t).sq, by rw [← r.length]; exact Nat.le_refl _⟩⟩⟩
    obtain ⟨v, hv, rv⟩ := (r.grow g1).get hd
    refine ⟨⟨xs, v, (g1.rl t).sq, hv⟩, fun y H2 hy => ?_⟩
    obtain ⟨rfl, hy⟩ := hy
    have q := (hy xs (g1.rl t).sq).symm.trans hv
    cases q
    exact ⟨Grow.refl _ _, w1, rv⟩
  | @ref n a ha =>
    have cell : ∀ ρ1 dh1 H1, Grow ρ H ρ1 H1 → Wd K mg ρ1 dh1 H1 → itemsD dh1 (.ref n) = some ds → ∃ xs, SqL K H1 a xs ∧ RepL K ρ1 H1 ds xs := fun ρ1 dh1 H1 g1 w1 k1 => by
      simp only [itemsD] at k1
      split at k1
      · rename_i es hk
        cases k1
        obtain ⟨xs, hx, r⟩ := cell_lst w1 hk (g1.at_ ha)
        exact ⟨xs, SqL.of hx, r⟩
      · cases k1
    obtain ⟨xs, hx, r⟩ := cell _ _ _ (Grow.refl _ _) w e
    refine ⟨a, rfl, .inl ⟨⟨xs, hx⟩, fun i d ρ1 dh1 H1 hd g1 w1 k1 => ?_, fun ρ1 dh1 H1 g1 w1 k1 => ?_⟩⟩
    · obtain ⟨ys, hy, r1⟩ := cell _ _ _ g1 w1 k1
      obtain ⟨v, hv, rv⟩ := r1.get hd
      refine ⟨⟨ys, v, hy, hv⟩, fun y H2 hz => ?_⟩
      obtain ⟨rfl, hz⟩ := hz
      have q := (hz ys hy).symm.trans hv
      cases q
      exact ⟨Grow.refl _ _, w1, rv⟩
    · obtain ⟨ys, hy, r1⟩ := cell _ _ _ g1 w1 k1
      exact ⟨ys, hy, by rw [← r1.length]; exact Nat.le_refl _⟩
  | _ => cases e
theorem di_any {l : Expr} {f : FE} (hl : PE X l (rE X.K X.mg W f)) : PI X tg l (rI X.K X.mg W (Rep X.K) (dIter f)) := by
  refine ⟨fun pins s τ H R I h => ?_⟩
  have h2 := rd_bind (R := Rep X.K) (g := fun x _ h1 => iterS x h1) h
  refine thn (hl.run pins s τ H _ I h2) fun v s1 ⟨u, H1, I1, r1, x, σ, dh, ρ, w, sσ, rx, p⟩ => ?_
  unfold iterS at p
  split at p
  · rename_i ds e
    obtain ⟨a, rfl, hq | hq⟩ := src_any w rx e
    · obtain ⟨⟨xs, hq⟩, ok⟩ := hq
      cases r1
      obtain ⟨its, rv, pl, hz⟩ := I1.list hq
      refine wpAny_pyIter_list pl.isList ⟨s1.heap.objs.size, [s1.heap.objs.size], _, _, H1, rfl, I1.kept (t' := s1.toks) fun b o e => Heap.get?_push_of_some _ e, turn_list a _, ⟨_, Heap.get?_push_size _ rfl, rfl, rfl⟩, fun b hb => ?_, p _ _ _ (Grow.refl _ _) w ok⟩
      cases List.mem_singleton.mp hb
      exact I1.fpOk (Nat.le_refl _) (I1.hok.fresh (Nat.le_refl _))
    · obtain ⟨⟨xs, hq⟩, ok⟩ := hq
      cases r1
      obtain ⟨its, rv, pl, hz⟩ := I1.tuple hq
      refine wpAny_pyIter_tuple (show s1.heap.IsTuple a its.toArray from pl) ⟨s1.heap.objs.size, [s1.heap.objs.size], _, _, H1, rfl, I1.kept (t' := s1.toks) fun b o e => Heap.get?_push_of_some _ e, turn_tuple a _, ⟨_, Heap.get?_push_size _ rfl, rfl, rfl⟩, fun b hb => ?_, p _ _ _ (Grow.refl _ _) w ok⟩
      cases List.mem_singleton.mp hb
      exact I1.fpOk (Nat.le_refl _) (I1.hok.fresh (Nat.le_refl _))
  · exact p.elim
/-- range -/
def rngD (lo : Int) (n : Nat) : List D := (List.range n).map fun i => D.int (lo + (i : Nat))
theorem rngD_len (lo : Int) (n : Nat) : (rngD lo n).length = n := by unfold rngD; rw [List.length_map, List.length_range]
theorem rngD_get {lo : Int} {n i : Nat} {d : D} (h : (rngD lo n)[i]? = some d) : i < n ∧ d = .int (lo + (i : Nat)) := by
  unfold rngD at h
  rw [List.getElem?_map] at h
  obtain ⟨j, hj, rfl⟩ := Option.map_eq_some_iff.mp h
  obtain ⟨h1, h2⟩ := List.getElem?_eq_some_iff.mp hj
  rw [List.length_range] at h1
  rw [List.getElem_range] at h2
  subst h2
  exact ⟨h1, rfl⟩
theorem src_rng {ρ : List Addr} {H : Hp} {lo : Int} {n : Nat} : SrcOk K mg (Rep K) ρ H ⟨rngD lo n, fun _ => True⟩ (Itr lo n) := by
  refine ⟨fun i d ρ1 dh1 H1 hd g1 w1 _ => ?_, fun ρ1 dh1 H1 g1 w1 _ => ?_⟩
  · obtain ⟨hi, rfl⟩ := rngD_get hd
    refine ⟨hi, fun x H2 hy => ?_⟩
    obtain ⟨rfl, rfl⟩ := hy
    exact ⟨Grow.refl _ _, w1, .int _⟩
  · show n ≤ (rngD lo n).length
    rw [rngD_len]
    exact Nat.le_refl _
def rngS (xs : List D) (h1 : DH) : Res Src := match xs with
  | [.int j] => if -(2 ^ 62) ≤ j ∧ j < 2 ^ 62 then .ok ⟨rngD 0 j.toNat, fun _ => True⟩ h1 else .bad
  | [.int i, .int j] => if (-(2 ^ 62) ≤ i ∧ i < 2 ^ 62) ∧ (-(2 ^ 62) ≤ j ∧ j < 2 ^ 62) then .ok ⟨rngD i (j - i).toNat, fun _ => True⟩ h1 else .bad
  | _ => .bad
def dRng (f : FA) : FI := fun σ h => (f σ h).bind rngS
theorem PI.weak {e : Expr} {t t' : TI} (h : PI X tg e t) (w : ∀ σ H Q, t' σ H Q → t σ H Q) : PI X tg e t' := ⟨fun pins s σ H Q I q => h.run pins s σ H Q I (w σ H Q q)⟩
theorem rd_rng1 {a : FE} {τ : L2.St} {H : Hp} {R : It → Hp → Prop} (h : rI K mg W (Rep K) (dRng (dCons a dNil)) τ H R) : iRng1 (rA K mg W (dCons a dNil)) τ H R := by
  have h2 := rd_bind (R := RepL K) (g := fun xs _ h1 => rngS xs h1) h
  obtain ⟨σ, dh, ρ, w, s, p⟩ := h2
  refine ⟨σ, dh, ρ, w, s, ?_⟩
  unfold dCons at p ⊢
  cases e : a σ dh with
  | exc x h1 => simp only [e, Res.bind] at p ⊢; exact p
  | bad => simp only [e, Res.bind] at p; exact p.elim
  | ok x h1 =>
    simp only [e, Res.bind, dNil] at p ⊢
    intro ρ1 H1 vs g1 w1 rv
    obtain ⟨xs, σ2, dh2, ρ2, w2, s2, rv2, p2⟩ := p ρ1 H1 vs g1 w1 rv
    obtain ⟨v, rfl, rv⟩ := rv.inv1
    cases rv2 with
    | cons r1 r2 =>
      cases r2
      cases r1 <;> first | exact p2.elim | skip
      rename_i j
      simp only [rngS] at p2
      split at p2
      · rename_i hb
        exact ⟨_, rfl, hb.1, hb.2, p2 _ _ _ (Grow.refl _ _) w2 src_rng⟩
      · exact p2.elim
theorem di_rng1 {a : Expr} {f : FE} {p pos : Pos} (hm : X.mg "range" = none) (ha : PA X [a] (rA X.K X.mg W (dCons f dNil))) (hg : Gl X "range" := by rfl) (hs : starEach [a] X.env = [(false, eval a X.env)] := by rfl) : PI X tg (.Call (.Name "range" p) [a] [] pos) (rI X.K X.mg W (Rep X.K) (dRng (dCons f dNil))) :=
  PI.weak (pi_range1 hg hm ha hs) fun _ _ _ h => rd_rng1 h
theorem rd_rng2 {g : FA} {τ : L2.St} {H : Hp} {R : It → Hp → Prop} (hl : ∀ σ h xs h1, g σ h = .ok xs h1 → xs.length = 2) (h : rI K mg W (Rep K) (dRng g) τ H R) : iRng2 (rA K mg W g) τ H R := by
  have h2 := rd_bind (R := RepL K) (g := fun xs _ h1 => rngS xs h1) h
  obtain ⟨σ, dh, ρ, w, s, p⟩ := h2
  refine ⟨σ, dh, ρ, w, s, ?_⟩
  cases e : g σ dh with
  | exc x h1 => simp only [e] at p; exact p
  | bad => simp only [e] at p; exact p.elim
  | ok ys h1 =>
    have hy := hl _ _ _ _ e
    simp only [e] at p
    intro ρ1 H1 vs g1 w1 rv
    obtain ⟨xs, σ2, dh2, ρ2, w2, s2, rv2, p2⟩ := p ρ1 H1 vs g1 w1 rv
    have hx : xs.length = 2 := by rw [rv2.length, ← rv.length]; exact hy
    match xs, hx, rv2, p2 with
    | [d, e], _, rv2, p2 =>
      obtain ⟨v, u, rfl, ra, rb⟩ := rv2.inv2
      cases ra <;> first | exact p2.elim | skip
      cases rb <;> first | exact p2.elim | skip
      rename_i i j
      simp only [rngS] at p2
      split at p2
      · rename_i hb
        exact ⟨_, _, rfl, ⟨hb.1.1, hb.1.2, hb.2.1, hb.2.2⟩, p2 _ _ _ (Grow.refl _ _) w2 src_rng⟩
      · exact p2.elim
theorem len2 {a b : FE} : ∀ σ h xs h1, dCons a (dCons b dNil) σ h = .ok xs h1 → xs.length = 2 := fun σ h xs h1 e => by
  unfold dCons dNil at e
  cases e1 : a σ h with
  | ok x h2 =>
    simp only [e1, Res.bind] at e
    cases e2 : b σ h2 with
    | ok y h3 =>
      simp only [e2, Res.bind] at e
      cases e
      rfl
    | exc z h3 => simp only [e2, Res.bind] at e; cases e
    | bad => simp only [e2, Res.bind] at e; cases e
  | exc z h3 => simp only [e1, Res.bind] at e; cases e
  | bad => simp only [e1, Res.bind] at e; cases e
theorem di_rng2 {a b : Expr} {f f' : FE} {p pos : Pos} (hm : X.mg "range" = none) (ha : PA X [a, b] (rA X.K X.mg W (dCons f (dCons f' dNil)))) (hg : Gl X "range" := by rfl) (hs : starEach [a, b] X.env = [(false, eval a X.env), (false, eval b X.env)] := by rfl) (hs2 : starEach [b] X.env = [(false, eval b X.env)] := by rfl) :
    PI X tg (.Call (.Name "range" p) [a, b] [] pos) (rI X.K X.mg W (Rep X.K) (dRng (dCons f (dCons f' dNil)))) :=
  PI.weak (pi_range2 hg hm ha hs hs2) fun _ _ _ h => rd_rng2 len2 h
/-- a text, sign by sign -/
def charS (x : D) (h1 : DH) : Res Src := match x with
  | .str z => .ok ⟨z.cps.toList.map fun c => D.str ⟨#[c]⟩, fun _ => True⟩ h1
  | _ => .bad
def dChars (f : FE) : FI := fun σ h => (f σ h).bind charS
theorem src_str {ρ : List Addr} {H : Hp} {z : Str} : SrcOk K mg (Rep K) ρ H ⟨z.cps.toList.map fun c => D.str ⟨#[c]⟩, fun _ => True⟩ (Its z) := by
  refine ⟨fun i d ρ1 dh1 H1 hd g1 w1 _ => ?_, fun ρ1 dh1 H1 g1 w1 _ => ?_⟩
  · have hd2 : (z.cps.toList.map fun c => D.str ⟨#[c]⟩)[i]? = some d := hd
    rw [List.getElem?_map] at hd2
    obtain ⟨c, hc, rfl⟩ := Option.map_eq_some_iff.mp hd2
    have hc2 : z.cps[i]? = some c := by rw [← Array.getElem?_toList]; exact hc
    refine ⟨(Array.getElem?_eq_some_iff.mp hc2).1, fun x H2 hy => ?_⟩
    obtain ⟨rfl, c', h1, rfl⟩ := hy
    rw [hc2] at h1
    cases h1
    exact ⟨Grow.refl _ _, w1, .str _⟩
  · show z.cps.size ≤ (z.cps.toList.map fun c => D.str ⟨#[c]⟩).length
    rw [List.length_map, Array.length_toList]
    exact Nat.le_refl _
theorem di_chars {e : Expr} {f : FE} (h : PE X e (rE X.K X.mg W f)) : PI X tg e (rI X.K X.mg W (Rep X.K) (dChars f)) := by
  refine PI.weak (pi_str h) fun τ H R r => ?_
  refine rd.mono (fun v H1 => ?_) (rd_bind (R := Rep X.K) (g := fun x _ h1 => charS x h1) r)
  rintro ⟨x, σ, dh, ρ, w, s, rx, p⟩
  cases rx <;> first | exact p.elim | skip
  exact ⟨_, rfl, p _ _ _ (Grow.refl _ _) w src_str⟩
/-- enumerate(list), a tuple target -/
def pairs (ds : List D) : List D := ds.zipIdx.map fun p => D.tup [.int (p.2 : Nat), p.1]
theorem pairs_get {ds : List D} {i : Nat} {d : D} (h : (pairs ds)[i]? = some d) : ∃ x, ds[i]? = some x ∧ d = .tup [.int (i : Nat), x] := by
  unfold pairs at h
  rw [List.getElem?_map, List.getElem?_zipIdx] at h
  cases e : ds[i]? with
  | none => rw [e] at h; cases h
  | some x =>
    rw [e] at h
    cases h
    exact ⟨x, rfl, by rw [Nat.zero_add]⟩
theorem pairs_len (ds : List D) : (pairs ds).length = ds.length := by unfold pairs; rw [List.length_map, List.length_zipIdx]
def lstD (h : DH) : D → Option (List D)
  | .rol ds => some ds
  | .ref n => match h[n]? with
    | some (.lst ds) => some ds
    | _ => none
  | _ => none
def enumS (x : D) (h1 : DH) : Res Src := match lstD h1 x with
  | some ds => .ok ⟨pairs ds, fun h => lstD h x = some ds⟩ h1
  | none => .bad
def dEnum (f : FE) : FI := fun σ h => (f σ h).bind enumS
theorem lstD_rep {ρ : List Addr} {H : Hp} {dh : DH} {x : D} {a : Addr} {ds : List D} (w : Wd K mg ρ dh H) (r : Rep K ρ H x (.ref a)) (e : lstD dh x = some ds) : ∃ xs, SqL K H a xs ∧ RepL K ρ H ds xs := by
  cases r with
  | rol t r => cases e; exact ⟨_, t.sq, r⟩
  | ref ha =>
    simp only [lstD] at e
    split at e
    · rename_i es hk
      cases e
      obtain ⟨xs, hx, r⟩ := cell_lst w hk ha
      exact ⟨xs, SqL.of hx, r⟩
    · cases e
  | _ => cases e
theorem src_enum {ρ : List Addr} {H : Hp} {x : D} {a : Addr} {ds : List D} (r : Rep K ρ H x (.ref a)) : SrcOk K mg (RepW K) ρ H ⟨pairs ds, fun h => lstD h x = some ds⟩ (Ite K a) := by
  refine ⟨fun i d ρ1 dh1 H1 hd g1 w1 k1 => ?_, fun ρ1 dh1 H1 g1 w1 k1 => ?_⟩
  · obtain ⟨y, hy, rfl⟩ := pairs_get hd
    obtain ⟨xs, hq, rl⟩ := lstD_rep w1 (r.grow g1) k1
    obtain ⟨v, hv, rv⟩ := rl.get hy
    refine ⟨⟨xs, v, hq, hv⟩, fun z H2 hz => ?_⟩
    obtain ⟨T, u, rfl, hT, rfl, hu⟩ := hz
    have q := (hu xs hq).symm.trans hv
    cases q
    exact ⟨grow_upd hT, w1.side hT, _, T, _, rfl, rfl, .inl (.inl upd_same), .cons (.int _) (.one (rv.grow (grow_upd hT)))⟩
  · obtain ⟨xs, hq, rl⟩ := lstD_rep w1 (r.grow g1) k1
    exact ⟨xs, hq, by rw [← rl.length, pairs_len]; exact Nat.le_refl _⟩
theorem di_enum {e : Expr} {f : FE} {p pos tpos : Pos} {elts : List Expr} {kk : Nat} (hm : X.mg "enumerate" = none) (he : PE X e (rE X.K X.mg W f)) (hg : Gl X "enumerate" := by rfl) (hs : starEach [e] X.env = [(false, eval e X.env)] := by rfl) :
    PI X (.Tuple elts kk tpos) (.Call (.Name "enumerate" p) [e] [] pos) (rI X.K X.mg W (RepW X.K) (dEnum f)) := by
  refine PI.weak (pi_enum hg hm (pa_cons he pa_nil (by rw [hs]; rfl)) hs) fun τ H R r => ?_
  refine rd.mono (fun v H1 => ?_) (rd_bind (R := Rep X.K) (g := fun x _ h1 => enumS x h1) r)
  rintro ⟨x, σ, dh, ρ, w, s, rx, p⟩
  unfold enumS at p
  split at p
  · rename_i ds e
    have hv : ∃ a, v = .ref a := by
      cases rx <;> first | exact ⟨_, rfl⟩ | cases e
    obtain ⟨a, rfl⟩ := hv
    obtain ⟨xs, hq, rl⟩ := lstD_rep w rx e
    exact ⟨a, xs, rfl, hq, p _ _ _ (Grow.refl _ _) w (src_enum rx)⟩
  · exact p.elim
end
end DL

/-! The data layer: list comprehensions, while, calls of defs, the def's rule. -/
namespace DL
open PySem PySem.Spec L2
open PyProof.Rows hiding St

/-! ### [e for g in src if t] -/
/-- no exception leaves a comprehension's block -/
abbrev W0 : WX := fun _ _ _ _ => False
def nox {α : Type} : Res α → Res α
  | .ok a h => .ok a h
  | _ => .bad
def wipeD (σ : DE) : List Nat → DE
  | [] => σ
  | v :: vs => (wipeD σ vs).set v none
theorem RepS.wipe {K : PySem.W.Frag} {ρ : List Addr} {H : Hp} {σ : DE} {τ : L2.St} (s : RepS K ρ H σ τ) : ∀ vs : List Nat, RepS K ρ H (wipeD σ vs) (L2.wipe τ vs)
  | [] => s
  | v :: vs => RepS.unset v (RepS.wipe s vs)
def dYes : FT := fun _ h => .ok true h
open Classical in
noncomputable def lcL (keep : DH → Prop) (g : DG) (t : FT) (e : FE) (σ : DE) (n : Nat) : List D → DH → Res D
  | [], h => if keep h then .ok (.ref n) h else .bad
  | d :: r, h => if keep h then (match g d σ with
    | some σ1 => (nox (t σ1 h)).bind fun b h1 => if b = true then (nox (e σ1 h1)).bind fun y h2 => (match h2[n]? with
        | some (.lst acc) => if acc.length < 16777216 then lcL keep g t e σ n r (h2.set n (.lst (acc ++ [y]))) else .bad
        | _ => .bad) else lcL keep g t e σ n r h1
    | none => .bad) else .bad
noncomputable def dLc (src : FI) (g : DG) (t : FT) (e : FE) (vs : List Nat) : FE := fun σ h => (src σ h).bind fun s h1 => lcL s.keep g t e (wipeD σ vs) h1.length s.ds (h1 ++ [.lst []])
section
variable {α β : Type} {K : PySem.W.Frag} {mg : Str → Option Value} {R : List Addr → Hp → α → β → Prop} {W : WX} {τ : L2.St} {ρ : List Addr} {H : Hp}
/-- a part without exceptions, under any wish -/
theorem Pst.nox {r : Res α} {Q : β → Hp → Prop} {W' : WX} {τ' : L2.St} (p : Pst K mg R W τ ρ H Q (nox r)) : Pst K mg R W' τ' ρ H Q r := by
  cases r with
  | ok a dh => exact p
  | exc e dh => exact p.elim
  | bad => exact p
theorem rd_lc {src : FI} {g : DG} {L : List Nat} {Rt : List Addr → Hp → D → V → Prop} {t : FT} {e : FE} {vs : List Nat} {Q : VK} (hL : ∀ k ∈ L, k ∈ vs) (r : rE K mg W (dLc src g t e vs) τ H Q) :
    tLc (rI K mg W Rt src) (rG K Rt L g) (rT K mg W0 t) (rE K mg W0 e) vs τ H Q := by
  refine rd.mono (fun J H1 => ?_) (rd_bind (R := SrcOk K mg Rt) (g := fun s σ h1 => lcL s.keep g t e (wipeD σ vs) h1.length s.ds (h1 ++ [.lst []])) r)
  rintro ⟨s, σ, dh, ρ1, w, sσ, ⟨go, stop⟩, p⟩ D hD
  have gD : Grow ρ1 H1 (ρ1 ++ [D]) (upd H1 D (.lst [])) := grow_cell hD
  refine ⟨fun i m H' => ∃ dh' ρ', Grow (ρ1 ++ [D]) (upd H1 D (.lst [])) ρ' H' ∧ Wd K mg ρ' dh' H' ∧ i + m = s.ds.length ∧ Pst K mg (Rep K) W τ ρ' H' Q (lcL s.keep g t e (wipeD σ vs) dh.length (s.ds.drop i) dh'),
    ⟨s.ds.length, dh ++ [Cell.lst []], ρ1 ++ [D], Grow.refl _ _, w.new (c := .lst []) hD ⟨[], upd_same, .nil⟩, Nat.zero_add _, p.grow gD⟩, fun i m H' hW => ?_⟩
  obtain ⟨dh', ρ', g', w', em, p'⟩ := hW
  have atD : ρ'[dh.length]? = some D := g'.at_ (new_at w D)
  have sw : RepS K ρ' H' (wipeD σ vs) (L2.wipe τ vs) := (sσ.wipe vs).grow (gD.trans g')
  cases ed : s.ds[i]? with
  | none =>
    have hl : s.ds.length ≤ i := List.getElem?_eq_none_iff.mp ed
    have hi2 : i = s.ds.length := by omega
    subst hi2
    rw [List.drop_length] at p'
    simp only [lcL] at p'
    split at p'
    · rename_i hk
      exact .inl ⟨stop _ _ _ (gD.trans g') w' hk, p' _ _ _ (Grow.refl _ _) w' (.ref atD)⟩
    · exact p'.elim
  | some d =>
    have hl : i < s.ds.length := (List.getElem?_eq_some_iff.mp ed).1
    have hd : s.ds.drop i = d :: s.ds.drop (i + 1) := by
      rw [List.drop_eq_getElem_cons hl, (List.getElem?_eq_some_iff.mp ed).2]
    rw [hd] at p'
    simp only [lcL] at p'
    split at p'
    · rename_i hk
      split at p'
      · rename_i σ1 eg
        obtain ⟨g1, y1⟩ := go i d _ _ _ ed (gD.trans g') w' hk
        refine .inr ⟨g1, fun H2 => ∃ dh' ρ', Grow (ρ1 ++ [D]) (upd H1 D (.lst [])) ρ' H2 ∧ Wd K mg ρ' dh' H2 ∧ (i + 1) + (m - 1) = s.ds.length ∧ Pst K mg (Rep K) W τ ρ' H2 Q (lcL s.keep g t e (wipeD σ vs) dh.length (s.ds.drop (i + 1)) dh'), fun H2 h2 => ⟨m - 1, by omega, h2⟩, fun x H2 hy => ?_⟩
        obtain ⟨g2, w2, r2⟩ := y1 x H2 hy
        refine ⟨ρ', d, _, σ1, r2, sw.grow g2, eg, fun τ2 s2 o2 => ⟨?_, σ1, dh', ρ', w2, s2, ?_⟩⟩
        · have q := (o2.mono hL).wipe
          rw [q]
          have z : ∀ vs : List Nat, Off vs τ (L2.wipe τ vs) := fun vs => ⟨wipe_length _ _, fun k hk => wipe_out hk⟩
          exact (z vs).wipe
        · refine Pst.mono (Pst.nox (Pst.bind (R := fun _ _ a b => a = b) (p'.grow g2))) ?_
          rintro b H3 ⟨b', h3, ρ3, g3, w3, rfl, p3⟩
          cases b' with
          | false =>
            rw [if_neg Bool.false_ne_true] at p3 ⊢
            exact ⟨h3, ρ3, g'.trans (g2.trans g3), w3, by omega, p3⟩
          | true =>
            rw [if_pos rfl] at p3 ⊢
            refine ⟨σ1, h3, ρ3, w3, s2.grow g3, ?_⟩
            refine Pst.mono (Pst.nox (Pst.bind (R := Rep K) p3)) ?_
            rintro y H4 ⟨y', h4, ρ4, g4, w4, ry, p4⟩
            have gg := g2.trans (g3.trans g4)
            split at p4
            · rename_i acc hn
              split at p4
              · rename_i hz
                have at4 : ρ4[dh.length]? = some D := gg.at_ atD
                obtain ⟨xs, hx, rl⟩ := cell_lst w4 hn at4
                have g5 : Grow ρ4 H4 ρ4 (upd H4 D (.lst (xs ++ [y]))) := grow_put hx trivial
                exact ⟨xs, hx, size_lt (by rw [← rl.length]; exact hz), _, ρ4, g'.trans (gg.trans g5), w4.put (c := .lst (acc ++ [y'])) at4 hx trivial ⟨xs ++ [y], upd_same, (rl.append (.one ry)).grow g5⟩, by omega, p4.grow g5⟩
              · exact p4.elim
            · exact p4.elim
      · exact p'.elim
    · exact p'.elim
end
section
variable {X : Cx} {W : WX}
theorem PTs.weak {ifs : List Expr} {t t' : TT} (h : PTs X ifs t) (w : ∀ σ H Q, t' σ H Q → t σ H Q) : PTs X ifs t' := ⟨fun pins s σ H Q I q => h.run pins s σ H Q I (w σ H Q q)⟩
theorem dts_nil : PTs X [] (rT X.K X.mg W dYes) := PTs.weak pts_nil fun _ _ _ ⟨_, _, _, w, _, p⟩ => p _ _ _ (Grow.refl _ _) w rfl
theorem dts_one {c : Expr} {t : FT} (h : PT X c (rT X.K X.mg W t)) : PTs X [c] (rT X.K X.mg W t) := pts_one h
variable {Rt : List Addr → Hp → D → V → Prop} {elt tg iter : Expr} {ifs : List Expr} {scope : Scope} {own : List (Str × Nat)} {pos : Pos} {src : FI} {g : DG} {L vs : List Nat} {t : FT} {e : FE}
theorem de_lc (hc : X.calm = true) (hN : X.N.Nodup) (hi : PI X tg iter (rI X.K X.mg W Rt src)) (ok : BlkOk X.N X.env.scope scope own)
    (hg : ∀ (s : Shared) (H : Hp) (C : Addr) (cl : List (Str × Addr)) (fp : List Addr), PG (X.blk s H scope (compEnvC scope cl C X.env) fp) tg (rG X.K Rt L g))
    (ht : ∀ (s : Shared) (H : Hp) (C : Addr) (cl : List (Str × Addr)) (fp : List Addr), PTs (X.blk s H scope (compEnvC scope cl C X.env) fp) ifs (rT X.K X.mg W0 t))
    (he : ∀ (s : Shared) (H : Hp) (C : Addr) (cl : List (Str × Addr)) (fp : List Addr), PE (X.blk s H scope (compEnvC scope cl C X.env) fp) elt (rE X.K X.mg W0 e))
    (hv : own.map (·.2) = vs := by rfl) (hL : ∀ k ∈ L, k ∈ vs := by decide) (hs : ∀ x, foldedSetIterable iter X.env x = pure x := by intro _; rfl) :
    PE X (.ListComp elt [⟨tg, iter, ifs, 0⟩] scope pos) (rE X.K X.mg W (dLc src g t e vs)) := by
  subst hv
  exact PE.weak (pe_lc hc hN hi ok hg ht he hs) fun _ _ _ r => rd_lc hL r
theorem ds_setLc {y : Str} {py spos : Pos} (i : Nat) (hc : X.calm = true) (hN : X.N.Nodup) (hsw : swapsWith (.ListComp elt [⟨tg, iter, ifs, 0⟩] scope pos) (some (.Name y py)) spos.line X.env = pure true) (hi : PI X tg iter (rI X.K X.mg W Rt src)) (ok : BlkOk X.N X.env.scope scope own)
    (hg : ∀ (s : Shared) (H : Hp) (C : Addr) (cl : List (Str × Addr)) (fp : List Addr), PG (X.blk s H scope (compEnvC scope cl C X.env) fp) tg (rG X.K Rt L g))
    (ht : ∀ (s : Shared) (H : Hp) (C : Addr) (cl : List (Str × Addr)) (fp : List Addr), PTs (X.blk s H scope (compEnvC scope cl C X.env) fp) ifs (rT X.K X.mg W0 t))
    (he : ∀ (s : Shared) (H : Hp) (C : Addr) (cl : List (Str × Addr)) (fp : List Addr), PE (X.blk s H scope (compEnvC scope cl C X.env) fp) elt (rE X.K X.mg W0 e))
    (hv : own.map (·.2) = vs := by rfl) (hL : ∀ k ∈ L, k ∈ vs := by decide) (hy : X.N[i]? = some y := by rfl) (hyl : X.env.scope.names.lookup y = some .local := by rfl) (hs : ∀ x, foldedSetIterable iter X.env x = pure x := by intro _; rfl) :
    PS X (.Assign [.Name y py] (.ListComp elt [⟨tg, iter, ifs, 0⟩] scope pos) spos) (rS X.K X.mg W (dSet i (dLc src g t e vs))) := by
  subst hv
  refine PS.weak (ps_setLc hc hN hy hyl hsw hi ok hg ht he hs) fun D τ H q => rd_lc hL ?_
  refine rd.mono (fun v H1 => ?_) (rS_then (R := Rep X.K) q)
  rintro ⟨x, σ, dh, ρ, w, s, rx, p⟩
  exact p _ _ _ (Grow.refl _ _) w (s.set rx i)
end

/-! ### while -/
def whileN (c : FT) (b : FS) : Nat → FS
  | 0 => fun _ _ => .bad
  | n + 1 => fun σ h => match c σ h with
    | .ok true h1 => match b σ h1 with
      | .nx σ2 h2 => whileN c b n σ2 h2
      | .ct σ2 h2 => whileN c b n σ2 h2
      | .bk σ2 h2 => .nx σ2 h2
      | x => x
    | .ok false h1 => .nx σ h1
    | .exc e h1 => .exc e σ h1
    | .bad => .bad
/-- as many turns as any script of ours takes -/
def FUEL : Nat := 1000000000
def dWhile (c : FT) (b : FS) : FS := whileN c b FUEL
theorem ds_while {X : Cx} {W : WX} {c : Expr} {body : List Stmt} {tc : FT} {tb : FS} {pos : Pos} (hp : PassesOwn (model X.prog X.w) X.A X.env X.xe) (hc : PT X c (rT X.K X.mg W tc)) (hb : PSs X body (rS X.K X.mg W tb)) : PS X (.While c body [] pos) (rS X.K X.mg W (dWhile tc tb)) := by
  refine PS.weak (ps_while hp hc hb) fun D τ H q => ?_
  obtain ⟨σ, dh, ρ, w, s, p⟩ := q
  refine ⟨fun m τ' H' => ∃ σ' dh' ρ', Wd X.K X.mg ρ' dh' H' ∧ RepS X.K ρ' H' σ' τ' ∧ PstS X.K X.mg W ρ' H' D (whileN tc tb m σ' dh'), ⟨FUEL, σ, dh, ρ, w, s, p⟩, fun m τ' H' hW => ?_⟩
  obtain ⟨σ', dh', ρ', w', s', p'⟩ := hW
  cases m with
  | zero => exact p'.elim
  | succ m =>
    simp only [whileN] at p'
    refine ⟨σ', dh', ρ', w', s', ?_⟩
    cases e : tc σ' dh' with
    | ok b h1 =>
      simp only [e] at p'
      intro ρ1 H1 b' g1 w1 eb
      subst eb
      cases b with
      | false =>
        rw [if_neg Bool.false_ne_true]
        exact p' _ _ _ g1 w1 (s'.grow g1)
      | true =>
        rw [if_pos rfl]
        refine ⟨fun τ2 H2 => ∃ σ' dh' ρ', Wd X.K X.mg ρ' dh' H2 ∧ RepS X.K ρ' H2 σ' τ2 ∧ PstS X.K X.mg W ρ' H2 D (whileN tc tb m σ' dh'), fun τ2 H2 h2 => ⟨m, Nat.lt_succ_self m, h2⟩, σ', h1, ρ1, w1, s'.grow g1, ?_⟩
        have p2 := p'.grow g1
        cases eb : tb σ' h1 with
        | nx σ2 h2 => simp only [eb] at p2; exact fun ρ4 H4 τ4 g4 w4 s4 => ⟨σ2, h2, ρ4, w4, s4, p2.grow g4⟩
        | ct σ2 h2 => simp only [eb] at p2; exact fun ρ4 H4 τ4 g4 w4 s4 => ⟨σ2, h2, ρ4, w4, s4, p2.grow g4⟩
        | bk σ2 h2 => simp only [eb] at p2; exact p2
        | rt d2 h2 => simp only [eb] at p2; exact p2
        | exc x2 σ2 h2 => simp only [eb] at p2; exact p2
        | bad => simp only [eb] at p2; exact p2
    | exc x h1 =>
      simp only [e] at p'
      exact fun ρ1 H1 c o g1 w1 re => p' _ _ _ _ _ g1 w1 (s'.grow g1) re
    | bad => simp only [e] at p'; exact p'

/-! ### defs -/
abbrev Fn := List D → DH → Res D
/-- the wish of a def's promise -/
abbrev WF (E : XK) : WX := fun c o _ H => E c o H
def spD (K : PySem.W.Frag) (mg : Str → Option Value) (F : Fn) : Sp := fun vs H Q E => ∃ ds dh ρ, Wd K mg ρ dh H ∧ RepL K ρ H ds vs ∧ (∃ n, ds.length = n ∧ vs.length = n) ∧ Pst K mg (Rep K) (WF E) [] ρ H Q (F ds dh)
/-- a def by its body: ps parameters, n names -/
def dDef (ps n : Nat) (body : FS) : Fn := fun ds h => if ds.length = ps then (match body (ds.map some ++ List.replicate (n - ds.length) none) h with
  | .nx _ h1 => .ok .non h1
  | .rt d h1 => .ok d h1
  | .exc e _ h1 => .exc e h1
  | _ => .bad) else .bad
section
variable {P : Program} {w : World} {K : PySem.W.Frag} {mg : Str → Option Value} {base : Heap}
theorem fn_ok {x qual : Str} {st : Stmt} {f : Addr} {fd : FuncData} {N ps : List Str} {k : Nat} {body : FS} (F : Fun K x qual st f fd) (S : FnScope N ps (defScope st))
    (hb : ∀ (cdv : Value) (A : Around) (outer : List Env) (s : Shared) (H : Hp) (E : XK), Room k (A.deeper (envOfC qual (defScope st) s.heap.objs.size f cdv)) →
      PSs (cxOf (L2.CX P w) P w K mg base N qual (defScope st) f cdv A outer s H E) (defBody st) (rS K mg (WF E) body)) :
    FnOk P w K mg base (L2.CX P w) (k + 1) f fd ps (spD K mg (dDef ps.length N.length body)) := by
  refine F.okX S (fun vs H Q E h => ?_) (fun cdv A outer s H vs Q E hr h => ⟨rS K mg (WF E) body, hb cdv A outer s H E hr, ?_⟩)
  · obtain ⟨ds, dh, ρ, w, r, _, p⟩ := h
    unfold dDef at p
    split at p
    · rename_i hl
      rw [← r.length]
      exact hl
    · exact p.elim
  · obtain ⟨ds, dh, ρ, w, r, _, p⟩ := h
    unfold dDef at p
    split at p
    · rename_i hl
      have hlen := r.length
      refine ⟨ds.map some ++ List.replicate (N.length - ds.length) none, dh, ρ, w, ?_, ?_⟩
      · unfold L2.start
        rw [← hlen]
        exact RepS.start _ r
      · cases e : body (ds.map some ++ List.replicate (N.length - ds.length) none) dh with
        | nx σ2 h2 => simp only [e] at p; exact fun ρ4 H4 τ4 g4 w4 s4 => p _ _ _ g4 w4 .non
        | rt d2 h2 => simp only [e] at p; exact p
        | exc x2 σ2 h2 => simp only [e] at p; exact fun ρ4 H4 τ4 c o g4 w4 s4 re => p _ _ _ _ g4 w4 re
        | bk σ2 h2 => simp only [e] at p; exact p.elim
        | ct σ2 h2 => simp only [e] at p; exact p.elim
        | bad => simp only [e] at p; exact p
    · exact p.elim
/-- another function that gives the same where it gives anything -/
theorem FnOk.fn {CX : CXT} {k : Nat} {f : Addr} {fd : FuncData} {ps : List Str} {F G : Fn} (h : FnOk P w K mg base CX k f fd ps (spD K mg F)) (e : ∀ ds dh, G ds dh = .bad ∨ G ds dh = F ds dh) : FnOk P w K mg base CX k f fd ps (spD K mg G) :=
  h.imp fun vs H Q E ⟨ds, dh, ρ, w, r, n, p⟩ => ⟨ds, dh, ρ, w, r, n, by
    rcases e ds dh with z | z
    · rw [z] at p; exact p.elim
    · rw [← z]; exact p⟩
end
def dCall (F : Fn) (g : FA) : FE := fun σ h => (g σ h).bind F
section
variable {X : Cx} {W : WX} {k : Nat} {f : Addr} {fd : FuncData} {ps : List Str} {F : Fn} {x : Str} {p pos : Pos} {e : Expr} {es : List Expr} {g : FA}
theorem rd_call {K : PySem.W.Frag} {mg : Str → Option Value} {τ : L2.St} {H : Hp} {Q : VK} (r : rE K mg W (dCall F g) τ H Q) : tCallS (spD K mg F) (WE W) (rA K mg W g) τ H Q := by
  refine rd.mono (fun vs H1 => ?_) (rd_bind (R := RepL K) (g := fun xs _ h1 => F xs h1) r)
  rintro ⟨xs, σ, dh, ρ, w, s, rx, p⟩
  refine ⟨xs, dh, ρ, w, rx, ⟨_, rx.length, rfl⟩, ?_⟩
  cases e : F xs dh with
  | ok a h => rw [e] at p; exact p
  | exc x h => rw [e] at p; exact p
  | bad => rw [e] at p; exact p
theorem de_call (G : FnOk X.prog X.w X.K X.mg X.base (L2.CX X.prog X.w) k f fd ps (spD X.K X.mg F)) (hr : Room k X.A) (tk : Takes X W) (hm : X.mg x = some (.ref f)) (hk : PySem.W.keepIn X.K (.ref f) = true) (hb : Binds X.K fd ps []) (ha : PA X (e :: es) (rA X.K X.mg W g)) (hg : Gl X x := by rfl)
    (hdb : (x == ("__debug__" : Str)) = false := by decide) (he : starEach (e :: es) X.env = (false, eval e X.env) :: starEach es X.env := by rfl) (hpl : (backTo pos (starEach es X.env)).any (·.1) = false := by rfl) :
    PE X (.Call (.Name x p) (e :: es) [] pos) (rE X.K X.mg W (dCall F g)) :=
  PE.weak (pe_callS G hr hg hm hk hb (fun σ => passAt tk σ) ha hdb he hpl) fun _ _ _ r => rd_call r
theorem de_call0 (G : FnOk X.prog X.w X.K X.mg X.base (L2.CX X.prog X.w) k f fd ps (spD X.K X.mg F)) (hr : Room k X.A) (tk : Takes X W) (hm : X.mg x = some (.ref f)) (hk : PySem.W.keepIn X.K (.ref f) = true) (hb : Binds X.K fd ps []) (hg : Gl X x := by rfl) (hdb : (x == ("__debug__" : Str)) = false := by decide) :
    PE X (.Call (.Name x p) [] [] pos) (rE X.K X.mg W (dCall F dNil)) := by
  refine ⟨fun pins s σ H Q I h => wpAny_Call_Name_kw (ld_glob I hg hm ?_ hdb)⟩
  refine PySem.W.callWith_K0 I.kIn hk (run_fnS (us := []) G hr hb (passAt tk σ) I .nil ?_)
  obtain ⟨σ1, dh, ρ, w, s1, q⟩ := h
  refine ⟨[], dh, ρ, w, .nil, ⟨0, rfl, rfl⟩, ?_⟩
  simp only [dCall, dNil, Res.bind] at q
  cases e : F [] dh with
  | ok a h => rw [e] at q; exact q
  | exc x h => rw [e] at q; exact q
  | bad => rw [e] at q; exact q
end
end DL

/-! The data layer: in, not in, dicts, texts' methods, stores. -/
namespace DL
open PySem PySem.Spec L2
open PyProof.Rows hiding St

/-! ### in, not in -/
def flatD : D → Bool
  | .non => true
  | .bl _ => true
  | .int _ => true
  | .str _ => true
  | _ => false
/-- == of flat data -/
def eqF : D → D → Bool
  | .non, .non => true
  | .bl a, .bl b => a == b
  | .bl a, .int b => (if a then 1 else 0) == b
  | .int a, .bl b => a == (if b then 1 else 0)
  | .int a, .int b => a == b
  | .str a, .str b => a == b
  | _, _ => false
section
variable {K : PySem.W.Frag} {mg : Str → Option Value} {ρ : List Addr} {H : Hp}
theorem flat_rep {d : D} {v : V} (r : Rep K ρ H d v) : flatV v = flatD d ∨ flatD d = false := by
  cases r <;> first | exact .inl rfl | exact .inr rfl
theorem flat_of {d : D} {v : V} (r : Rep K ρ H d v) (f : flatD d = true) : flatV v = true := by
  rcases flat_rep r with e | e
  · rw [e]; exact f
  · rw [f] at e; cases e
theorem flats_of : ∀ {ds : List D} {vs : List V}, RepL K ρ H ds vs → ds.all flatD = true → vs.all flatV = true
  | _, _, .nil, _ => rfl
  | _, _, .cons h r, f => by
    simp only [List.all_cons, Bool.and_eq_true] at f ⊢
    exact ⟨flat_of h f.1, flats_of r f.2⟩
theorem eqF_rep {d e : D} {v u : V} (r : Rep K ρ H d v) (q : Rep K ρ H e u) (f : flatD d = true) (g : flatD e = true) : eqV v u = eqF d e := by
  cases r <;> first | (exact absurd f (by decide)) | skip
  all_goals (cases q <;> first | rfl | (exact absurd g (by decide)))
theorem inF_rep {e : D} {u : V} (q : Rep K ρ H e u) (g : flatD e = true) : ∀ {ds : List D} {vs : List V}, RepL K ρ H ds vs → ds.all flatD = true → inV u vs = ds.any fun d => eqF d e
  | _, _, .nil, _ => rfl
  | _, _, .cons h r, f => by
    simp only [List.all_cons, Bool.and_eq_true] at f
    have ih := inF_rep q g r f.2
    unfold inV at ih ⊢
    rw [List.any_cons, List.any_cons, ih, eqF_rep h q f.1 g]
end
def keyD : D → Option Key
  | .int i => some (.inl i)
  | .str x => some (.inr x)
  | _ => none
def getK (kvs : List (Key × D)) (k : Key) : Option D := (kvs.find? fun kv => decide (kv.1 = k)).map (·.2)
def putKD (kvs : List (Key × D)) (k : Key) (d : D) : List (Key × D) :=
  if kvs.any (fun kv => decide (kv.1 = k)) then kvs.map (fun kv => if kv.1 = k then (kv.1, d) else kv) else kvs ++ [(k, d)]
/-- x in y: a dict's key, a sign or text of a text, a flat item -/
def inD (x y : D) (h : DH) : Option Bool := match y with
  | .str z => match x with
    | .str a => if a.cps.size = 1 then some (decide (a.cps.getD 0 0 ∈ z.cps.toList)) else some (!(Builtin.Str.occurrences z a 0 z.length 1).isEmpty)
    | _ => none
  | .ref n => match h[n]? with
    | some (.dic kvs) => match keyD x with
      | some k => some (getK kvs k).isSome
      | none => none
    | some (.lst ds) => if flatD x = true ∧ ds.all flatD = true then some (ds.any fun d => eqF d x) else none
    | _ => none
  | .tup ds => if flatD x = true ∧ ds.all flatD = true then some (ds.any fun d => eqF d x) else none
  | .rol ds => if flatD x = true ∧ ds.all flatD = true then some (ds.any fun d => eqF d x) else none
  | _ => none
def oIn (x y : D) (h : DH) : Res D := match inD x y h with
  | some b => .ok (.bl b) h
  | none => .bad
def oNotIn (x y : D) (h : DH) : Res D := match inD x y h with
  | some b => .ok (.bl (!b)) h
  | none => .bad
section
variable {K : PySem.W.Frag} {mg : Str → Option Value} {ρ : List Addr} {H : Hp}
theorem keyD_rep {d : D} {v : V} {k : Key} (r : Rep K ρ H d v) (e : keyD d = some k) : v = kV k := by
  cases r <;> first | (cases e; rfl) | cases e
theorem getK_rep : ∀ {kvs : List (Key × D)} {ks : List (Key × V)} {k : Key}, RepK K ρ H kvs ks → (∀ d, getK kvs k = some d → ∃ v, valV ks k = some v ∧ Rep K ρ H d v) ∧ (getK kvs k = none → valV ks k = none)
  | _, _, _, .nil => ⟨fun d e => (nomatch e), fun _ => rfl⟩
  | (a, d) :: kvs, (b, v) :: ks, k, .cons h r => by
    obtain ⟨h1, h2⟩ := h
    simp only at h1 h2
    subst h1
    obtain ⟨i1, i2⟩ := getK_rep (k := k) r
    unfold getK valV at *
    rw [List.find?_cons, List.find?_cons]
    by_cases e : a = k
    · simp only [e, decide_true]
      exact ⟨fun d' q => ⟨v, rfl, by cases q; exact h2⟩, fun q => nomatch q⟩
    · simp only [e, decide_false]
      exact ⟨i1, i2⟩
/-- x in y as the library's rules answer it -/
def rInX (K : PySem.W.Frag) (neg : Bool) : R2 := fun x y H Q =>
  (∃ (c : Nat) (z : Str), x = .str ⟨#[c]⟩ ∧ y = .str z ∧ Q (.bl (if neg then !decide (c ∈ z.cps.toList) else decide (c ∈ z.cps.toList))) H) ∨
  (∃ i j, x = .str i ∧ y = .str j ∧ Q (.bl (if neg then !(!(Builtin.Str.occurrences j i 0 j.length 1).isEmpty) else !(Builtin.Str.occurrences j i 0 j.length 1).isEmpty)) H) ∨
  rIn K neg x y H Q ∨ (∃ a o, y = .ref a ∧ DGet H a x o ∧ Q (.bl (if neg then !o.isSome else o.isSome)) H)
theorem op_inX {X : Cx} (hu : X.A.units + 1 < cLine) : OpR X (compareOp .In) (rInX X.K false) := by
  intro pins s σ H x y v u Q I rx ry h
  rcases h with h | h | h | h
  · exact op_in_sign pins s σ H x y v u Q I rx ry h
  · exact op_in_str pins s σ H x y v u Q I rx ry h
  · exact op_in_seq pins s σ H x y v u Q I rx ry h
  · obtain ⟨a, o, rfl, g, q⟩ := h
    obtain rfl : u = Value.ref a := ry
    exact d_in hu I g rx fun s3 I3 => ⟨.bl o.isSome, H, I3, rfl, q⟩
theorem op_notInX {X : Cx} (hu : X.A.units + 1 < cLine) : OpR X (compareOp .NotIn) (rInX X.K true) := by
  intro pins s σ H x y v u Q I rx ry h
  rcases h with h | h | h | h
  · exact op_notIn_sign pins s σ H x y v u Q I rx ry h
  · exact op_notIn_str pins s σ H x y v u Q I rx ry h
  · exact op_notIn_seq pins s σ H x y v u Q I rx ry h
  · obtain ⟨a, o, rfl, g, q⟩ := h
    obtain rfl : u = Value.ref a := ry
    exact d_notIn hu I g rx fun s3 I3 => ⟨.bl (!o.isSome), H, I3, rfl, q⟩
theorem inX_of {dh : DH} {x y : D} {v u : V} {b neg : Bool} {Q : VK} (w : Wd K mg ρ dh H) (rx : Rep K ρ H x v) (ry : Rep K ρ H y u) (e : inD x y dh = some b) (q : Q (.bl (if neg then !b else b)) H) : rInX K neg v u H Q := by
  unfold inD at e
  split at e
  · rename_i z
    cases ry
    split at e
    · rename_i a
      cases rx
      split at e
      · rename_i h1
        cases e
        refine .inl ⟨a.cps.getD 0 0, z, ?_, rfl, q⟩
        obtain ⟨⟨l⟩⟩ := a
        match l, h1 with
        | [c], _ => rfl
      · cases e
        exact .inr (.inl ⟨a, z, rfl, rfl, q⟩)
    · cases e
  · rename_i n
    cases ry with
    | @ref _ a ha =>
      split at e
      · rename_i kvs hk
        split at e
        · rename_i k ek
          cases e
          obtain ⟨ks, h1, r1⟩ := w.cellAt hk ha
          have ev := keyD_rep rx ek
          subst ev
          obtain ⟨g1, g2⟩ := getK_rep (k := k) r1
          refine .inr (.inr (.inr ⟨a, valV ks k, rfl, DGet.k h1, ?_⟩))
          cases eg : getK kvs k with
          | none => rw [eg] at q; rw [g2 eg]; exact q
          | some d =>
            obtain ⟨v', h2, _⟩ := g1 d eg
            rw [eg] at q
            rw [h2]
            exact q
        · cases e
      · rename_i ds hk
        split at e
        · rename_i hf
          cases e
          obtain ⟨xs, hx, r1⟩ := cell_lst w hk ha
          exact .inr (.inr (.inl ⟨a, xs, rfl, .inl (SqL.of hx), flat_of rx hf.1, flats_of r1 hf.2, by rw [inF_rep rx hf.1 r1 hf.2]; exact q⟩))
        · cases e
      · cases e
  · rename_i ds
    split at e
    · rename_i hf
      cases e
      cases ry with
      | tup t r1 => exact .inr (.inr (.inl ⟨_, _, rfl, .inr t.sq, flat_of rx hf.1, flats_of r1 hf.2, by rw [inF_rep rx hf.1 r1 hf.2]; exact q⟩))
    · cases e
  · rename_i ds
    split at e
    · rename_i hf
      cases e
      cases ry with
      | rol t r1 => exact .inr (.inr (.inl ⟨_, _, rfl, .inl t.sq, flat_of rx hf.1, flats_of r1 hf.2, by rw [inF_rep rx hf.1 r1 hf.2]; exact q⟩))
    · cases e
  · cases e
theorem os_in : OpS K mg (rInX K false) oIn := by
  intro ρ dh H x y v u Q W τ w rx ry p
  unfold oIn at p
  split at p
  · rename_i b e
    exact inX_of w rx ry e (same_val w (.bl _) p)
  · exact p.elim
theorem os_notIn : OpS K mg (rInX K true) oNotIn := by
  intro ρ dh H x y v u Q W τ w rx ry p
  unfold oNotIn at p
  split at p
  · rename_i b e
    exact inX_of w rx ry e (same_val w (.bl _) p)
  · exact p.elim
end

/-! ### texts -/
section
variable {K : PySem.W.Frag} {mg : Str → Option Value}
/-- str(n), str(text) -/
def bStrX : List D → DH → Res D
  | [.int i], h => if i.natAbs.log2 < 1920 then .ok (.str (toString i)) h else .bad
  | [.str a], h => .ok (.str a) h
  | _, _ => .bad
def rStrX : List V → Hp → VK → Prop := fun xs H Q => (∃ i, xs = [.int i] ∧ i.natAbs.log2 < 1920 ∧ Q (.str (toString i)) H) ∨ (∃ a, xs = [.str a] ∧ Q (.str a) H)
theorem call_strX {X : Cx} : CallR X (.type "str") rStrX := CallR.or call_str_int SkE.call_str_str
theorem cs_strX : CallS K mg rStrX bStrX := by
  intro ρ dh H ds vs Q W τ w rx p
  unfold bStrX at p
  split at p
  · obtain ⟨v, rfl, r⟩ := rx.inv1
    cases r
    split at p
    · rename_i hl
      exact .inl ⟨_, rfl, hl, same_val w (.str _) p⟩
    · exact p.elim
  · obtain ⟨v, rfl, r⟩ := rx.inv1
    cases r
    exact .inr ⟨_, rfl, same_val w (.str _) p⟩
  · exact p.elim
def mJoin : D → List D → DH → Res D
  | .str a, [x], h => match itemsD h x with
    | some ds => match strsD ds with
      | some ys => if (ys.map (·.length)).sum + ys.length * a.length ≤ 16777216 then .ok (.str (Txt.join a ys)) h else .bad
      | none => .bad
    | none => .bad
  | _, _, _ => .bad
theorem ms_join : MetS K mg (fun x xs H Q => ∃ a p, ∃ ys : List Str, x = .str a ∧ xs = [.ref p] ∧ (SqL K H p (ys.map V.str) ∨ SqT K H p (ys.map V.str)) ∧ (ys.map (·.length)).sum + ys.length * a.length ≤ 16777216 ∧ Q (.str (Txt.join a ys)) H) mJoin := by
  intro ρ dh H x v ds vs Q W τ w rx rs p
  unfold mJoin at p
  split at p
  · obtain ⟨u, rfl, ry⟩ := rs.inv1
    cases rx
    split at p
    · rename_i ds e
      split at p
      · rename_i ys e2
        split at p
        · rename_i hl
          obtain ⟨b, xs, rfl, hq, r⟩ := itemsD_rep w ry e
          have ex := strsD_rep r e2
          subst ex
          exact ⟨_, b, ys, rfl, rfl, hq, hl, same_val w (.str _) p⟩
        · exact p.elim
      · exact p.elim
    · exact p.elim
  · exact p.elim
def mSplit : D → List D → DH → Res D
  | .str a, [.str b], h => if (b.length == 0) = false ∧ a.length + 2 ≤ 16777216 then .ok (.ref h.length) (h ++ [.lst ((Txt.split a b).map D.str)]) else .bad
  | _, _, _ => .bad
theorem rep_strs {ρ : List Addr} {H : Hp} : ∀ ys : List Str, RepL K ρ H (ys.map D.str) (ys.map V.str)
  | [] => .nil
  | y :: r => .cons (.str y) (rep_strs r)
theorem ms_split : MetS K mg (fun x xs H Q => ∃ a b, x = .str a ∧ xs = [.str b] ∧ (b.length == 0) = false ∧ a.length + 2 ≤ sizeLine ∧ rNewStrs (Txt.split a b) H Q) mSplit := by
  intro ρ dh H x v ds vs Q W τ w rx rs p
  unfold mSplit at p
  split at p
  · obtain ⟨u, rfl, ry⟩ := rs.inv1
    cases rx
    cases ry
    split at p
    · rename_i hl
      exact ⟨_, _, rfl, rfl, hl.1, size_lim hl.2, new_lst w (rep_strs _) p⟩
    · exact p.elim
  · exact p.elim
end

/-! ### o[i] = v -/
def sPut (o i v : D) (h : DH) : Res D := match o with
  | .ref n => match h[n]? with
    | some (.lst ds) => match i with
      | .int k => match ixN ds.length k with
        | some j => .ok .non (h.set n (.lst (ds.set j v)))
        | none => .bad
      | _ => .bad
    | some (.dic kvs) => match keyD i with
      | some k => if kvs.length < 16777216 then .ok .non (h.set n (.dic (putKD kvs k v))) else .bad
      | none => .bad
    | _ => .bad
  | _ => .bad
def dPut (fo fi fv : FE) : FS := fun σ h => dThen fv (fun v => dThen fo fun o => dThen fi fun i => fun σ h => match sPut o i v h with
  | .ok _ h' => .nx σ h'
  | _ => .bad) σ h
section
variable {K : PySem.W.Frag} {mg : Str → Option Value} {ρ : List Addr} {H : Hp}
theorem putKD_rep {k : Key} {d : D} {v : V} (r : Rep K ρ H d v) {kvs : List (Key × D)} {ks : List (Key × V)} (q : RepK K ρ H kvs ks) : RepK K ρ H (putKD kvs k d) (putK ks k v) := by
  unfold putKD putK
  have e : kvs.any (fun kv => decide (kv.1 = k)) = ks.any (fun kv => decide (kv.1 = k)) := by
    induction q with
    | nil => rfl
    | cons h _ ih => rw [List.any_cons, List.any_cons, ih, h.1]
  rw [e]
  have m : ∀ {kvs : List (Key × D)} {ks : List (Key × V)}, RepK K ρ H kvs ks → RepK K ρ H (kvs.map fun kv => if kv.1 = k then (kv.1, d) else kv) (ks.map fun kv => if kv.1 = k then (kv.1, v) else kv) := fun q => by
    induction q with
    | nil => exact .nil
    | @cons a b l1 l2 h _ ih =>
      refine .cons ?_ ih
      show (if a.1 = k then (a.1, d) else a).1 = (if b.1 = k then (b.1, v) else b).1 ∧ Rep K ρ H (if a.1 = k then (a.1, d) else a).2 (if b.1 = k then (b.1, v) else b).2
      by_cases z : a.1 = k
      · have z2 : b.1 = k := h.1 ▸ z
        rw [if_pos z, if_pos z2]
        exact ⟨h.1, r⟩
      · have z2 : ¬ b.1 = k := h.1 ▸ z
        rw [if_neg z, if_neg z2]
        exact h
  have ap : ∀ {kvs : List (Key × D)} {ks : List (Key × V)}, RepK K ρ H kvs ks → RepK K ρ H (kvs ++ [(k, d)]) (ks ++ [(k, v)]) := fun q => by
    induction q with
    | nil => exact .cons ⟨rfl, r⟩ .nil
    | cons h _ ih => exact .cons h ih
  split
  · exact m q
  · exact ap q
def rSetX : V → V → V → Hp → (Hp → Prop) → Prop := fun o i v H Q => rSetL o i v H Q ∨ ∃ a H', o = .ref a ∧ DPut H a i v H' ∧ Q H'
theorem set_X {X : Cx} (hu : X.A.units + 1 < cLine) : PSet X rSetX := by
  intro pins s σ H o i v ov iv u Q I ro ri rv h
  rcases h with h | ⟨a, H', rfl, g, q⟩
  · exact set_list pins s σ H o i v ov iv u Q I ro ri rv h
  · obtain rfl : ov = Value.ref a := ro
    exact d_setItem hu I g ri rv fun s' I' => ⟨H', I', q⟩
end
theorem ds_put {X : Cx} {W : WX} {o i e : Expr} {fo fi fv : FE} {pos pos' : Pos} (hu : X.A.units + 1 < cLine) (ho : PE X o (rE X.K X.mg W fo)) (hi : PE X i (rE X.K X.mg W fi)) (he : PE X e (rE X.K X.mg W fv))
    (ha : ∀ v, assign (.Subscript o i pos') X.env v = (do
      let ov ← holding [v] (eval o X.env)
      let iv ← holding [v, ov] (eval i X.env)
      standAt pos'
      holding [v, ov, iv] (setItem ov iv v)
      release [v, ov, iv] []) := by intro _; rfl)
    (hs : swapsWithSole [.Subscript o i pos'] e pos.line X.env = pure false := by rfl) (hw : swappedStores [.Subscript o i pos'] e X.env = pure none := by rfl)
    (h1 : (assignEach [.Subscript o i pos'] X.env).map (·.2) = [assign (.Subscript o i pos') X.env] := by rfl) : PS X (.Assign [.Subscript o i pos'] e pos) (rS X.K X.mg W (dPut fo fi fv)) := by
  refine PS.weak (ps_asg he (pg_sub ho hi (set_X hu) ha) hs hw h1) fun D τ H r => ?_
  refine rd.mono (fun v H1 => ?_) (rS_then (R := Rep X.K) r)
  rintro ⟨x, σ, dh, ρ, w, s, rx, p⟩
  -- the object, then the index; the value's data grows along
  have p1 : rS X.K X.mg W (dThen fo fun o => dThen fi fun i => fun σ h => match sPut o i x h with | .ok _ h' => .nx σ h' | _ => .bad) D τ H1 → True := fun _ => trivial
  refine ⟨σ, dh, ρ, w, s, ?_⟩
  unfold dThen at p
  cases e1 : fo σ dh with
  | exc z h2 => simp only [e1] at p; exact fun ρ2 H2 c o g2 w2 re => p _ _ _ _ _ g2 w2 (s.grow g2) re
  | bad => simp only [e1] at p; exact p
  | ok o' h2 =>
    simp only [e1] at p
    intro ρ2 H2 ov g2 w2 ro
    refine ⟨σ, h2, ρ2, w2, s.grow g2, ?_⟩
    have p2 := p.grow g2
    cases e2 : fi σ h2 with
    | exc z h3 => simp only [e2] at p2; exact fun ρ3 H3 c o g3 w3 re => p2 _ _ _ _ _ g3 w3 ((s.grow g2).grow g3) re
    | bad => simp only [e2] at p2; exact p2
    | ok i' h3 =>
      simp only [e2] at p2
      intro ρ3 H3 iv g3 w3 ri
      have p3 := p2.grow g3
      have ro3 := ro.grow g3
      have rx3 := rx.grow (g2.trans g3)
      have s3 := s.grow (g2.trans g3)
      unfold sPut at p3
      cases ro3 with
      | @ref n a ha =>
        simp only at p3
        cases hk : h3[n]? with
        | none => simp only [hk] at p3; exact p3.elim
        | some c =>
          cases c with
          | lst ds =>
            simp only [hk] at p3
            cases ri <;> first | exact p3.elim | skip
            rename_i k
            simp only at p3
            cases hj : ixN ds.length k with
            | none => simp only [hj] at p3; exact p3.elim
            | some j =>
              simp only [hj] at p3
              obtain ⟨xs, hx, rl⟩ := cell_lst w3 hk ha
              have g5 : Grow ρ3 H3 ρ3 (upd H3 a (.lst (xs.set j v))) := grow_put hx trivial
              exact .inl ⟨a, xs, k, j, rfl, rfl, hx, by rw [← rl.length]; exact hj, p3 _ _ _ g5 (w3.put (c := .lst (ds.set j x)) ha hx trivial ⟨_, upd_same, (rl.set rx3 j).grow g5⟩) (s3.grow g5)⟩
          | dic kvs =>
            simp only [hk] at p3
            cases ek : keyD i' with
            | none => simp only [ek] at p3; exact p3.elim
            | some k =>
              simp only [ek] at p3
              split at p3
              · rename_i h' eh
                split at eh
                · rename_i hl
                  cases eh
                  obtain ⟨ks, hx, rl⟩ := w3.cellAt hk ha
                  have ev := keyD_rep ri ek
                  subst ev
                  have hlen : kvs.length = ks.length := Paired.length rl
                  have g5 : Grow ρ3 H3 ρ3 (upd H3 a (.dK (putK ks k v))) := grow_put hx trivial
                  exact .inr ⟨a, _, rfl, DPut.k hx (size_lt (by rw [← hlen]; exact hl)), p3 _ _ _ g5 (w3.put (c := .dic (putKD kvs k x)) ha hx trivial ⟨_, upd_same, (putKD_rep rx3 rl).grow g5⟩) (s3.grow g5)⟩
                · cases eh
              · exact p3.elim
          | ldic kvs => simp only [hk] at p3; exact p3.elim
          | obj c fs => simp only [hk] at p3; exact p3.elim
      | _ => exact p3.elim
/-- {} -/
def dNewD : FE := fun _ h => .ok (.ref h.length) (h ++ [.dic []])
theorem de_newD {X : Cx} {W : WX} {pos : Pos} : PE X (.Dict [] [] pos) (rE X.K X.mg W dNewD) :=
  PE.weak pe_dnewK fun _ _ _ ⟨_, _, _, w, _, p⟩ => new_cell w p fun a ha => ⟨[], upd_same, .nil⟩
end DL
namespace DL
open PySem PySem.Spec L2
open PyProof.Rows hiding St
/-- a def of the text that keeps its function's promise, as a caller wants it -/
def Has (P : Program) (w : World) (K : PySem.W.Frag) (mg : Str → Option Value) (base : Heap) (k : Nat) (x : Str) (ps : List Str) (F : Fn) : Prop :=
  ∃ (f : Addr) (fd : FuncData), FnOk P w K mg base (L2.CX P w) k f fd ps (spD K mg F) ∧ mg x = some (.ref f) ∧ PySem.W.keepIn K (.ref f) = true ∧ Binds K fd ps []
section
variable {X : Cx} {W : WX} {k j : Nat} {ps : List Str} {F : Fn} {x : Str} {p pos : Pos} {e : Expr} {es : List Expr} {g : FA}
theorem de_has (h : Has X.prog X.w X.K X.mg X.base k x ps F) (hr : Room j X.A) (hk : k ≤ j) (tk : Takes X W) (ha : PA X (e :: es) (rA X.K X.mg W g)) (hg : Gl X x := by rfl)
    (hdb : (x == ("__debug__" : Str)) = false := by decide) (he : starEach (e :: es) X.env = (false, eval e X.env) :: starEach es X.env := by rfl) (hpl : (backTo pos (starEach es X.env)).any (·.1) = false := by rfl) :
    PE X (.Call (.Name x p) (e :: es) [] pos) (rE X.K X.mg W (dCall F g)) := by
  obtain ⟨f, fd, G, hm, hkp, hb⟩ := h
  exact de_call G (hr.mono hk) tk hm hkp hb ha hg hdb he hpl
theorem de_has0 (h : Has X.prog X.w X.K X.mg X.base k x ps F) (hr : Room j X.A) (hk : k ≤ j) (tk : Takes X W) (hg : Gl X x := by rfl) (hdb : (x == ("__debug__" : Str)) = false := by decide) :
    PE X (.Call (.Name x p) [] [] pos) (rE X.K X.mg W (dCall F dNil)) := by
  obtain ⟨f, fd, G, hm, hkp, hb⟩ := h
  exact de_call0 G (hr.mono hk) tk hm hkp hb hg hdb
end
section
variable {P : Program} {w : World} {K : PySem.W.Frag} {mg : Str → Option Value} {base : Heap}
/-- another promise for the same def -/
theorem Has.imp {k : Nat} {x : Str} {ps : List Str} {F G : Fn} (h : Has P w K mg base k x ps F) (e : ∀ vs H Q E, spD K mg G vs H Q E → spD K mg F vs H Q E) : Has P w K mg base k x ps G := by
  obtain ⟨f, fd, Gk, hm, hkp, hb⟩ := h
  exact ⟨f, fd, Gk.imp e, hm, hkp, hb⟩
end
/-- a law's promise: called with the script it gives True -/
def spLaw (K : PySem.W.Frag) : Sp := fun vs H Q _ => ∃ (a : Addr) (ns : List Int), vs = [.ref a] ∧ Rol K H a (ns.map V.int) ∧ ns.length ≤ 63 ∧ (∀ b, H b = none ∨ ∃ o xs, H b = some (.frz o (.lst xs))) ∧ ∀ H', Q (.bl true) H'
/-- the script as data -/
def script (ns : List Int) : D := .rol (ns.map D.int)
theorem rep_ints {K : PySem.W.Frag} {ρ : List Addr} {H : Hp} : ∀ ns : List Int, RepL K ρ H (ns.map D.int) (ns.map V.int)
  | [] => .nil
  | n :: r => .cons (.int n) (rep_ints r)
theorem law_imp {K : PySem.W.Frag} {mg : Str → Option Value} {F : Fn} (h : ∀ ns : List Int, ns.length ≤ 63 → ∃ dh, F [script ns] [] = .ok (.bl true) dh) : ∀ vs H Q E, spLaw K vs H Q E → spD K mg F vs H Q E := by
  rintro vs H Q E ⟨a, ns, rfl, hr, hl, _, q⟩
  obtain ⟨dh, e⟩ := h ns hl
  refine ⟨[script ns], [], [], ⟨rfl, List.nodup_nil, fun i c a hi => (nomatch hi)⟩, .one (.rol hr (rep_ints ns)), ⟨1, rfl, rfl⟩, ?_⟩
  rw [e]
  intro ρ' H' v g w r
  cases r
  exact q H'
theorem rol_only {K : PySem.W.Frag} {H : Hp} {a : Addr} {xs : List V} (ho : Only H) (h : SqL K H a xs) : Rol K H a xs := by
  rcases h with (e | ⟨o, e⟩) | h
  · rcases ho a with z | ⟨o, ys, z⟩
    · rw [z] at e; cases e
    · rw [z] at e; cases e
  · exact .inl ⟨o, e⟩
  · exact .inr h
end DL

/-! The data layer: what a def leaves behind is forgotten (Trim); where a def stands (Here). -/
namespace DL
open PySem PySem.Spec L2
open PyProof.Rows hiding St

mutual
/-- no cell in it -/
def closed : D → Bool
  | .ref _ => false
  | .tup ds => closeds ds
  | .rol ds => closeds ds
  | _ => true
def closeds : List D → Bool
  | [] => true
  | d :: ds => closed d && closeds ds
end
def closedC : Cell → Bool
  | .lst ds => closeds ds
  | .dic kvs => closeds (kvs.map (·.2))
  | .ldic kvs => closeds (kvs.map (·.2))
  | .obj _ fs => closeds (fs.map (·.2))
theorem closeds_all : ∀ ds : List D, closeds ds = ds.all closed
  | [] => rfl
  | d :: ds => by rw [closeds, List.all_cons, closeds_all ds]
theorem closeds_append {a b : List D} (ha : closeds a = true) (hb : closeds b = true) : closeds (a ++ b) = true := by
  rw [closeds_all] at *
  rw [List.all_append, ha, hb]
  rfl
section
variable {K : PySem.W.Frag} {mg : Str → Option Value} {ρ ρ' : List Addr} {H H' : Hp}
mutual
theorem Rep.any : ∀ {d : D} {v : V}, Rep K ρ H d v → closed d = true → Rep K ρ' H d v
  | _, _, .non, _ => .non
  | _, _, .bl b, _ => .bl b
  | _, _, .int i, _ => .int i
  | _, _, .str x, _ => .str x
  | _, _, .tup t r, c => .tup t (RepL.any r (by simpa only [closed] using c))
  | _, _, .rol t r, c => .rol t (RepL.any r (by simpa only [closed] using c))
  | _, _, .ref _, c => by simp [closed] at c
theorem RepL.any : ∀ {ds : List D} {vs : List V}, RepL K ρ H ds vs → closeds ds = true → RepL K ρ' H ds vs
  | _, _, .nil, _ => .nil
  | _, _, .cons h r, c => by
    simp only [closeds, Bool.and_eq_true] at c
    exact .cons (Rep.any h c.1) (RepL.any r c.2)
end
mutual
/-- what leans on the old cells alone leans on any extension of them -/
theorem Rep.swap {r r' : List Addr} : ∀ {d : D} {v v0 : V}, Rep K ρ H d v0 → Rep K (ρ ++ r) H' d v → Rep K (ρ ++ r') H' d v
  | _, _, _, .non, h => by cases h; exact .non
  | _, _, _, .bl b, h => by cases h; exact .bl b
  | _, _, _, .int i, h => by cases h; exact .int i
  | _, _, _, .str x, h => by cases h; exact .str x
  | _, _, _, .tup _ r0, h => by
    cases h with
    | tup t q => exact .tup t (RepL.swap r0 q)
  | _, _, _, .rol _ r0, h => by
    cases h with
    | rol t q => exact .rol t (RepL.swap r0 q)
  | _, _, _, .ref h0, h => by
    cases h with
    | ref h =>
      refine .ref ?_
      have hl := (List.getElem?_eq_some_iff.mp h0).1
      rw [List.getElem?_append_left hl] at h ⊢
      exact h
theorem RepL.swap {r r' : List Addr} : ∀ {ds : List D} {vs vs0 : List V}, RepL K ρ H ds vs0 → RepL K (ρ ++ r) H' ds vs → RepL K (ρ ++ r') H' ds vs
  | _, _, _, .nil, h => by cases h; exact .nil
  | _, _, _, .cons h0 r0, h => by
    cases h with
    | cons h1 r1 => exact .cons (Rep.swap h0 h1) (RepL.swap r0 r1)
end
theorem RepK.any {α : Type} : ∀ {kvs : List (α × D)} {ks : List (α × V)}, Paired (fun p q => p.1 = q.1 ∧ Rep K ρ H p.2 q.2) kvs ks → closeds (kvs.map (·.2)) = true → Paired (fun p q => p.1 = q.1 ∧ Rep K ρ' H p.2 q.2) kvs ks
  | _, _, .nil, _ => .nil
  | _, _, .cons h r, c => by
    simp only [List.map_cons, closeds, Bool.and_eq_true] at c
    exact .cons ⟨h.1, h.2.any c.1⟩ (RepK.any r c.2)
theorem RepK.swap {α : Type} {r r' : List Addr} : ∀ {kvs : List (α × D)} {ks ks0 : List (α × V)}, Paired (fun p q => p.1 = q.1 ∧ Rep K ρ H p.2 q.2) kvs ks0 → Paired (fun p q => p.1 = q.1 ∧ Rep K (ρ ++ r) H' p.2 q.2) kvs ks → Paired (fun p q => p.1 = q.1 ∧ Rep K (ρ ++ r') H' p.2 q.2) kvs ks
  | _, _, _, .nil, h => by cases h; exact .nil
  | _, _, _, .cons h0 r0, h => by
    cases h with
    | cons h1 r1 => exact .cons ⟨h1.1, h0.2.swap h1.2⟩ (RepK.swap r0 r1)
theorem CellOk.any {a : Addr} {c : Cell} (h : CellOk K mg ρ H a c) (hc : closedC c = true) : CellOk K mg ρ' H a c := by
  cases c with
  | lst ds => obtain ⟨xs, q, r⟩ := h; exact ⟨xs, q, r.any hc⟩
  | dic kvs => obtain ⟨xs, q, r⟩ := h; exact ⟨xs, q, RepK.any r hc⟩
  | ldic kvs => obtain ⟨o, xs, q, r⟩ := h; exact ⟨o, xs, q, RepK.any r hc⟩
  | obj c fs => obtain ⟨C, dx, xs, m, q, r⟩ := h; exact ⟨C, dx, xs, m, q, RepK.any r hc⟩
theorem CellOk.swap {a a0 : Addr} {c : Cell} {r r' : List Addr} (h0 : CellOk K mg ρ H a0 c) (h : CellOk K mg (ρ ++ r) H' a c) : CellOk K mg (ρ ++ r') H' a c := by
  cases c with
  | lst ds => obtain ⟨xs0, _, r0⟩ := h0; obtain ⟨xs, q, r⟩ := h; exact ⟨xs, q, r0.swap r⟩
  | dic kvs => obtain ⟨xs0, _, r0⟩ := h0; obtain ⟨xs, q, r⟩ := h; exact ⟨xs, q, RepK.swap r0 r⟩
  | ldic kvs => obtain ⟨_, xs0, _, r0⟩ := h0; obtain ⟨o, xs, q, r⟩ := h; exact ⟨o, xs, q, RepK.swap r0 r⟩
  | obj c fs => obtain ⟨_, _, xs0, _, _, r0⟩ := h0; obtain ⟨C, dx, xs, m, q, r⟩ := h; exact ⟨C, dx, xs, m, q, RepK.swap r0 r⟩
end
/-- the old cells, some of them written with closed data -/
def Kept (dh dh2 : DH) : Prop := dh2.length = dh.length ∧ ∀ (i : Nat) (c : Cell), dh2[i]? = some c → dh[i]? = some c ∨ closedC c = true
theorem Kept.refl (dh : DH) : Kept dh dh := ⟨rfl, fun _ _ h => .inl h⟩
theorem Kept.set {dh dh2 : DH} {n : Nat} {c : Cell} (k : Kept dh dh2) (hc : closedC c = true) : Kept dh (dh2.set n c) := by
  refine ⟨by rw [List.length_set]; exact k.1, fun i x h => ?_⟩
  by_cases e : n = i
  · subst e
    rw [List.getElem?_set_self'] at h
    cases hd : dh2[n]? with
    | none => rw [hd] at h; cases h
    | some z => rw [hd] at h; cases h; exact .inr hc
  · rw [List.getElem?_set_ne e] at h
    exact k.2 i x h
/-- what may be told of a result in its place -/
inductive Trim (dh : DH) : Res D → Res D → Prop
  | bad (r : Res D) : Trim dh r .bad
  | same (r : Res D) : Trim dh r r
  | val {d : D} {dh2 g : DH} : closed d = true → Kept dh dh2 → Trim dh (.ok d (dh2 ++ g)) (.ok d dh2)
  | old {n : Nat} {dh2 g : DH} : n < dh.length → Kept dh dh2 → Trim dh (.ok (.ref n) (dh2 ++ g)) (.ok (.ref n) dh2)
  | lst {k : Nat} {c : Cell} {dh2 g : DH} : dh2.length ≤ k → (dh2 ++ g)[k]? = some c → closedC c = true → Kept dh dh2 → Trim dh (.ok (.ref k) (dh2 ++ g)) (.ok (.ref dh2.length) (dh2 ++ [c]))
  | exc {e : Exv} {dh2 g : DH} : closeds (e.fs.map (·.2)) = true → Kept dh dh2 → Trim dh (.exc e (dh2 ++ g)) (.exc e dh2)
section
variable {K : PySem.W.Frag} {mg : Str → Option Value} {ρ ρ' : List Addr} {H H' : Hp} {dh dh2 g : DH}
theorem Wd.cut (w : Wd K mg ρ dh H) (gr : Grow ρ H ρ' H') (w' : Wd K mg ρ' (dh2 ++ g) H') (k : Kept dh dh2) : Grow ρ H ρ H' ∧ Wd K mg ρ dh2 H' := by
  obtain ⟨r, e⟩ := gr.pre
  subst e
  refine ⟨⟨⟨[], by rw [List.append_nil]⟩, gr.tup, gr.frz⟩, ⟨by rw [k.1]; exact w.len, w.nd, fun i c a hi ha => ?_⟩⟩
  have h1 : (dh2 ++ g)[i]? = some c := by
    rw [List.getElem?_append_left (List.getElem?_eq_some_iff.mp hi).1]
    exact hi
  have h2 : (ρ ++ r)[i]? = some a := by
    rw [List.getElem?_append_left (List.getElem?_eq_some_iff.mp ha).1]
    exact ha
  have q := w'.at_ i c a h1 h2
  rcases k.2 i c hi with z | z
  · have q2 := CellOk.swap (r' := []) (w.at_ i c a z ha) q
    rw [List.append_nil] at q2
    exact q2
  · exact q.any z
theorem Trim.pst {rF rG : Res D} {W : WX} {τ : L2.St} {Q : VK} (t : Trim dh rF rG) (w : Wd K mg ρ dh H) (p : Pst K mg (Rep K) W τ ρ H Q rG) : Pst K mg (Rep K) W τ ρ H Q rF := by
  cases t with
  | bad => exact p.elim
  | same => exact p
  | val hc k =>
    intro ρ' H' v gr w' r
    obtain ⟨g2, w2⟩ := w.cut gr w' k
    exact p _ _ _ g2 w2 (r.any hc)
  | old hn k =>
    intro ρ' H' v gr w' r
    obtain ⟨g2, w2⟩ := w.cut gr w' k
    cases r with
    | ref ha =>
      obtain ⟨r, e⟩ := gr.pre
      subst e
      rw [List.getElem?_append_left (by rw [w.len]; exact hn)] at ha
      exact p _ _ _ g2 w2 (.ref ha)
  | @lst k c dh2 g hk hc hcl kp =>
    intro ρ' H' v gr w' r
    cases r with
    | @ref _ a ha =>
      obtain ⟨g2, w2⟩ := w.cut gr w' kp
      have ck := (w'.at_ k c a hc ha).any (ρ' := ρ ++ [a]) hcl
      have hnin : a ∉ ρ := fun m => by
        obtain ⟨j, hj, e⟩ := List.getElem_of_mem m
        obtain ⟨r, e2⟩ := gr.pre
        have h3 : ρ'[j]? = some a := by
          rw [e2, List.getElem?_append_left hj, List.getElem?_eq_getElem hj, e]
        have := nd_ix w'.nd h3 ha
        have hl := w.len
        have hl2 := kp.1
        omega
      refine p (ρ ++ [a]) H' (.ref a) ⟨⟨[a], rfl⟩, gr.tup, gr.frz⟩ ⟨?_, ?_, fun i x b hi hb => ?_⟩ (.ref ?_)
      · rw [List.length_append, List.length_append, w2.len]
        rfl
      · rw [List.nodup_append]
        exact ⟨w.nd, by simp, fun x hx y hy e => by
          rw [List.mem_singleton] at hy
          subst hy
          subst e
          exact hnin hx⟩
      · by_cases hl : i < dh2.length
        · rw [List.getElem?_append_left hl] at hi
          rw [List.getElem?_append_left (by rw [w2.len]; exact hl)] at hb
          exact (w2.at_ i x b hi hb).grow ⟨⟨[a], rfl⟩, fun _ _ e => e, fun _ _ _ e _ => e⟩ rfl
        · have hl2 : i < (dh2 ++ [c]).length := (List.getElem?_eq_some_iff.mp hi).1
          rw [List.length_append] at hl2
          have e : i = dh2.length := by simp at hl2; omega
          subst e
          rw [List.getElem?_append_right (Nat.le_refl _), Nat.sub_self] at hi
          rw [List.getElem?_append_right (by rw [w2.len]; exact Nat.le_refl _), w2.len, Nat.sub_self] at hb
          simp at hi hb
          subst hi
          subst hb
          exact ck
      · rw [← w2.len, List.getElem?_append_right (Nat.le_refl _), Nat.sub_self]
        rfl
  | exc hc k =>
    intro ρ' H' c o gr w' r
    obtain ⟨g2, w2⟩ := w.cut gr w' k
    obtain ⟨C, h1, h2, h3⟩ := r
    refine p _ _ _ _ g2 w2 ⟨C, h1, h2, ?_⟩
    rcases h3 with h3 | ⟨dd, xs, h4, h5, h6⟩
    · exact .inl h3
    · exact .inr ⟨dd, xs, h4, h5, RepK.any h6 hc⟩
end
section
variable {P : Program} {w : World} {K : PySem.W.Frag} {mg : Str → Option Value} {base : Heap}
theorem Has.trim {k : Nat} {x : Str} {ps : List Str} {F G : Fn} (h : Has P w K mg base k x ps F) (e : ∀ ds dh, Trim dh (F ds dh) (G ds dh)) : Has P w K mg base k x ps G :=
  h.imp fun vs H Q E ⟨ds, dh, ρ, w, r, n, p⟩ => ⟨ds, dh, ρ, w, r, n, (e ds dh).pst w p⟩
theorem Has.mono {j k : Nat} {x : Str} {ps : List Str} {F : Fn} (h : Has P w K mg base j x ps F) (l : j ≤ k) : Has P w K mg base k x ps F := by
  obtain ⟨f, fd, G, a⟩ := h
  exact ⟨f, fd, G.mono l, a⟩
/-- where a def stands -/
def Here (K : PySem.W.Frag) (mg : Str → Option Value) (x : Str) (st : Stmt) (ps : List Str) : Prop := ∃ (f : Addr) (fd : FuncData), Fun K x x st f fd ∧ mg x = some (.ref f) ∧ Binds K fd ps []
theorem has_of {x : Str} {st : Stmt} {ps : List Str} {k : Nat} {F : Fn} (h : Here K mg x st ps) (ok : ∀ f fd, Fun K x x st f fd → FnOk P w K mg base (L2.CX P w) k f fd ps (spD K mg F)) : Has P w K mg base k x ps F := by
  obtain ⟨f, fd, hF, hm, hb⟩ := h
  exact ⟨f, fd, ok f fd hF, hm, hF.kp, hb⟩
/-- a def that calls itself, to a depth -/
theorem has_rec {x : Str} {st : Stmt} {ps : List Str} {k0 : Nat} {F : Nat → Fn} (h : Here K mg x st ps) (h0 : ∀ ds dh, F 0 ds dh = .bad)
    (ok : ∀ n k, k0 ≤ k → Has P w K mg base k x ps (F n) → ∀ f fd, Fun K x x st f fd → FnOk P w K mg base (L2.CX P w) (k + 1) f fd ps (spD K mg (F (n + 1)))) : ∀ n, Has P w K mg base (k0 + n) x ps (F n)
  | 0 => by
    obtain ⟨f, fd, hF, hm, hb⟩ := h
    refine ⟨f, fd, ⟨fun vs H Q E z => ?_, fun A outer s H args us vs Q E _ _ _ _ z => ?_⟩, hm, hF.kp, hb⟩
    · obtain ⟨ds, dh, ρ, _, _, _, p⟩ := z
      rw [h0] at p
      exact p.elim
    · obtain ⟨ds, dh, ρ, _, _, _, p⟩ := z
      rw [h0] at p
      exact p.elim
  | n + 1 => has_of h (ok n (k0 + n) (Nat.le_add_right _ _) (has_rec h h0 ok n))
end
/-- x += y: ints, texts -/
def rIAddX : R2 := fun x y H Q => rI0 (fun i j => .int (i + j)) x y H Q ∨ (∃ i j, x = .str i ∧ y = .str j ∧ i.length + j.length ≤ sizeLine ∧ Q (.str (i ++ j)) H)
def oIAdd : D → D → DH → Res D
  | .int i, .int j, h => .ok (.int (i + j)) h
  | .str x, .str y, h => if x.length + y.length ≤ 16777216 then .ok (.str (x ++ y)) h else .bad
  | _, _, _ => .bad
theorem iop_addX {X : Cx} : OpR X (inplaceOp .Add) rIAddX := OpR.or iop_add iop_add_str
theorem os_iadd {K : PySem.W.Frag} {mg : Str → Option Value} : OpS K mg rIAddX oIAdd := by
  intro ρ dh H x y v u Q W τ w rx ry p
  unfold oIAdd at p
  split at p
  · cases rx; cases ry
    exact .inl ⟨_, _, rfl, rfl, same_val w (.int _) p⟩
  · cases rx; cases ry
    split at p
    · rename_i hl
      exact .inr ⟨_, _, rfl, rfl, size_lim hl, same_val w (.str _) p⟩
    · exact p.elim
  · exact p.elim
/-- return -/
def dRetN : FS := fun _ h => .rt .non h
theorem ds_retN {X : Cx} {W : WX} {pos : Pos} : PS X (.Return none pos) (rS X.K X.mg W dRetN) := PS.weak ps_retN fun _ _ _ ⟨_, _, _, w, _, p⟩ => p _ _ _ (Grow.refl _ _) w .non
end DL

/-! The data layer: equations for reckoning. -/
namespace DL
open PySem PySem.Spec L2
open PyProof.Rows hiding St

section
variable {σ : DE} {h : DH} {i : Nat} {d : D} {f g : FE} {t u : FT} {a : FA} {s b : FS}
@[simp] theorem dVar_ap : dVar i σ h = (match getS σ i with | some d => .ok d h | none => .bad) := (rfl)
@[simp] theorem dC_ap : dC d σ h = .ok d h := (rfl)
@[simp] theorem dBin_ap {op : D → D → DH → Res D} : dBin op f g σ h = (f σ h).bind fun x h1 => (g σ h1).bind fun y h2 => op x y h2 := (rfl)
@[simp] theorem dUn_ap {op : D → DH → Res D} : dUn op f σ h = (f σ h).bind op := (rfl)
@[simp] theorem dTest_ap : dTest f σ h = (f σ h).bind fun x h1 => (match x with | .bl b => .ok b h1 | _ => .bad) := (rfl)
@[simp] theorem dChain_ap {op op' : D → D → DH → Res D} {k : FE} : dChain op op' f g k σ h = (f σ h).bind fun x h1 => (g σ h1).bind fun y h2 => (op x y h2).bind fun z h3 => (match z with
  | .bl true => (k σ h3).bind fun w h4 => op' y w h4
  | .bl false => .ok (.bl false) h3
  | _ => .bad) := (rfl)
@[simp] theorem dAndT_ap : dAndT t u σ h = (t σ h).bind fun c h1 => if c = true then u σ h1 else .ok false h1 := (rfl)
@[simp] theorem dOrT_ap : dOrT t u σ h = (t σ h).bind fun c h1 => if c = true then .ok true h1 else u σ h1 := (rfl)
@[simp] theorem dNotT_ap : dNotT t σ h = (t σ h).bind fun c h1 => .ok (!c) h1 := (rfl)
@[simp] theorem dAndV_ap : dAndV f g σ h = (f σ h).bind fun x h1 => (match x with
  | .bl true => g σ h1
  | .bl false => .ok (.bl false) h1
  | _ => .bad) := (rfl)
@[simp] theorem dOrV_ap : dOrV f g σ h = (f σ h).bind fun x h1 => (match x with
  | .bl true => .ok (.bl true) h1
  | .bl false => g σ h1
  | _ => .bad) := (rfl)
@[simp] theorem dNotV_ap : dNotV f σ h = (f σ h).bind fun x h1 => (match x with | .bl b => .ok (.bl (!b)) h1 | _ => .bad) := (rfl)
@[simp] theorem dIfE_ap : dIfE t f g σ h = (t σ h).bind fun b h1 => if b = true then f σ h1 else g σ h1 := (rfl)
@[simp] theorem dTru_ap : dTru f σ h = (f σ h).bind fun x h1 => (match truD h1 x with | some b => .ok b h1 | none => .bad) := (rfl)
@[simp] theorem truD_bl {k : Bool} : truD h (.bl k) = some k := (rfl)
@[simp] theorem dNil_ap : dNil σ h = .ok [] h := (rfl)
@[simp] theorem dCons_ap : dCons f a σ h = (f σ h).bind fun x h1 => (a σ h1).bind fun xs h2 => .ok (x :: xs) h2 := (rfl)
@[simp] theorem dTup_ap : dTup a σ h = (a σ h).bind fun xs h1 => if xs.length ≤ 16777216 then .ok (.tup xs) h1 else .bad := (rfl)
@[simp] theorem dLst_ap : dLst a σ h = (a σ h).bind fun xs h1 => if xs.length ≤ 16777216 then .ok (.ref h1.length) (h1 ++ [.lst xs]) else .bad := (rfl)
@[simp] theorem dNoPart_ap : dNoPart σ h = .ok none h := (rfl)
@[simp] theorem dPart_ap : dPart f σ h = (f σ h).bind fun x h1 => (match x with | .int i => .ok (some i) h1 | _ => .bad) := (rfl)
@[simp] theorem dSl_ap {lo hi : FO} : dSl f lo hi σ h = (f σ h).bind fun x h1 => (lo σ h1).bind fun l h2 => (hi σ h2).bind fun u h3 => oSl x l u h3 := (rfl)
@[simp] theorem dCB_ap {k : List D → DH → Res D} : dCB k a σ h = (a σ h).bind k := (rfl)
@[simp] theorem dCall_ap {F : Fn} : dCall F a σ h = (a σ h).bind F := (rfl)
@[simp] theorem dIs_ap {T : TN} : dIs T f σ h = (f σ h).bind fun x h1 => (match tyD h1 x with
  | some t => match T.has t with
    | some b => .ok (.bl b) h1
    | none => .bad
  | none => .bad) := (rfl)
@[simp] theorem dBM_ap {T : String} {m : D → List D → DH → Res D} : dBM T m f a σ h = (f σ h).bind fun x h1 => if rcvD T h1 x = true then (a σ h1).bind fun xs h2 => m x xs h2 else .bad := (rfl)
@[simp] theorem dIter_ap : dIter f σ h = (f σ h).bind iterS := (rfl)
@[simp] theorem dRng_ap : dRng a σ h = (a σ h).bind rngS := (rfl)
@[simp] theorem dChars_ap : dChars f σ h = (f σ h).bind charS := (rfl)
@[simp] theorem dEnum_ap : dEnum f σ h = (f σ h).bind enumS := (rfl)
@[simp] theorem dNewD_ap : dNewD σ h = .ok (.ref h.length) (h ++ [.dic []]) := (rfl)
@[simp] theorem dLc_ap {src : FI} {gg : DG} {vs : List Nat} : dLc src gg t f vs σ h = (src σ h).bind fun s h1 => lcL s.keep gg t f (wipeD σ vs) h1.length s.ds (h1 ++ [.lst []]) := (rfl)
@[simp] theorem dYes_ap : dYes σ h = .ok true h := (rfl)
@[simp] theorem nox_ok {α : Type} {x : α} : nox (.ok x h) = .ok x h := (rfl)
/-- a statement's value, then the rest -/
def RS.of {α : Type} (σ : DE) (r : Res α) (k : α → DH → RS) : RS := match r with
  | .ok x h => k x h
  | .exc e h => .exc e σ h
  | .bad => .bad
@[simp] theorem RS.of_ok {α : Type} {x : α} {k : α → DH → RS} : RS.of σ (.ok x h) k = k x h := (rfl)
@[simp] theorem RS.of_exc {α : Type} {e : Exv} {k : α → DH → RS} : RS.of σ (.exc e h) k = .exc e σ h := (rfl)
@[simp] theorem RS.of_bad {α : Type} {k : α → DH → RS} : RS.of σ .bad k = .bad := (rfl)
theorem dThen_ap {α : Type} {f : DE → DH → Res α} {k : α → FS} : dThen f k σ h = RS.of σ (f σ h) fun x h1 => k x σ h1 := by
  unfold dThen RS.of
  cases f σ h <;> rfl
@[simp] theorem dSkip_ap : dSkip σ h = .nx σ h := (rfl)
/-- a statement, then the next -/
def RS.next (r : RS) (k : DE → DH → RS) : RS := match r with
  | .nx σ h => k σ h
  | r => r
@[simp] theorem RS.next_nx {k : DE → DH → RS} : RS.next (.nx σ h) k = k σ h := (rfl)
@[simp] theorem RS.next_rt {k : DE → DH → RS} : RS.next (.rt d h) k = .rt d h := (rfl)
@[simp] theorem RS.next_bk {k : DE → DH → RS} : RS.next (.bk σ h) k = .bk σ h := (rfl)
@[simp] theorem RS.next_ct {k : DE → DH → RS} : RS.next (.ct σ h) k = .ct σ h := (rfl)
@[simp] theorem RS.next_exc {k : DE → DH → RS} {e : Exv} : RS.next (.exc e σ h) k = .exc e σ h := (rfl)
@[simp] theorem RS.next_bad {k : DE → DH → RS} : RS.next .bad k = .bad := (rfl)
@[simp] theorem dSeq_ap : dSeq s b σ h = (s σ h).next b := by
  unfold dSeq RS.next
  cases s σ h <;> rfl
@[simp] theorem dRet_ap : dRet f σ h = RS.of σ (f σ h) fun d h1 => .rt d h1 := dThen_ap
@[simp] theorem dRetN_ap : dRetN σ h = .rt .non h := (rfl)
@[simp] theorem dDrop_ap : dDrop f σ h = RS.of σ (f σ h) fun _ h1 => .nx σ h1 := dThen_ap
@[simp] theorem dSet_ap : dSet i f σ h = RS.of σ (f σ h) fun d h1 => .nx (σ.set i (some d)) h1 := dThen_ap
@[simp] theorem dIf_ap : dIf t s b σ h = RS.of σ (t σ h) fun c h1 => if c = true then s σ h1 else b σ h1 := dThen_ap
@[simp] theorem dBreak_ap : dBreak σ h = .bk σ h := (rfl)
@[simp] theorem dCont_ap : dCont σ h = .ct σ h := (rfl)
@[simp] theorem dNever_ap : dNever σ h = .bad := (rfl)
@[simp] theorem dAug_ap {op : D → D → DH → Res D} : dAug i op f σ h = RS.of σ (dBin op (dVar i) f σ h) fun d h1 => .nx (σ.set i (some d)) h1 := dThen_ap
@[simp] theorem dUnp_ap {gg : DG} : dUnp gg f σ h = RS.of σ (f σ h) fun d h1 => (match gg d σ with
  | some σ' => .nx σ' h1
  | none => .bad) := dThen_ap
@[simp] theorem dPut_ap {k : FE} : dPut f g k σ h = RS.of σ (k σ h) fun v h1 => RS.of σ (f σ h1) fun o h2 => RS.of σ (g σ h2) fun i h3 => (match sPut o i v h3 with
  | .ok _ h' => .nx σ h'
  | _ => .bad) := by
  unfold dPut
  simp only [dThen_ap]
  all_goals rfl
@[simp] theorem dFor_ap {src : FI} {gg : DG} : dFor src gg b σ h = RS.of σ (src σ h) fun s h1 => forL s.keep gg b s.ds σ h1 := dThen_ap
@[simp] theorem gN_ap : gN i d σ = some (σ.set i (some d)) := (rfl)
@[simp] theorem gT_tup {gs : DGs} {ds : List D} : gT gs (.tup ds) σ = gs ds σ := (rfl)
@[simp] theorem gNilD_nil : gNilD [] σ = some σ := (rfl)
@[simp] theorem gConsD_cons {gg : DG} {gs : DGs} {ds : List D} : gConsD gg gs (d :: ds) σ = (match gg d σ with | some σ1 => gs ds σ1 | none => none) := (rfl)
/-- a def's end -/
def RS.fin (r : RS) : Res D := match r with
  | .nx _ h1 => .ok .non h1
  | .rt d h1 => .ok d h1
  | .exc e _ h1 => .exc e h1
  | _ => .bad
@[simp] theorem RS.fin_nx : RS.fin (.nx σ h) = .ok .non h := (rfl)
@[simp] theorem RS.fin_rt : RS.fin (.rt d h) = .ok d h := (rfl)
@[simp] theorem RS.fin_exc {e : Exv} : RS.fin (.exc e σ h) = .exc e h := (rfl)
@[simp] theorem RS.fin_bad : RS.fin .bad = .bad := (rfl)
@[simp] theorem dDef_ap {np n : Nat} {ds : List D} : dDef np n b ds h = if ds.length = np then (b (ds.map some ++ List.replicate (n - ds.length) none) h).fin else .bad := (rfl)
/-! ### operators on data -/
section
variable {x y z w : Int} {a c : Str} {p q : List D} {m n : Nat} {k : Bool} {D1 D2 : D}
@[simp] theorem oAdd_int : oAdd (.int x) (.int y) h = .ok (.int (x + y)) h := (rfl)
theorem oAdd_str (hl : a.length + c.length ≤ 16777216) : oAdd (.str a) (.str c) h = .ok (.str (a ++ c)) h := if_pos hl
theorem oAdd_tup (hl : p.length + q.length ≤ 16777216) : oAdd (.tup p) (.tup q) h = .ok (.tup (p ++ q)) h := if_pos hl
theorem oAdd_lst (e1 : h[m]? = some (.lst p)) (e2 : h[n]? = some (.lst q)) (hl : p.length + q.length ≤ 16777216) : oAdd (.ref m) (.ref n) h = .ok (.ref h.length) (h ++ [.lst (p ++ q)]) := by
  simp only [oAdd, e1, e2, if_pos hl]
@[simp] theorem oInt0_int {g : Int → Int → Int} : oInt0 g (.int x) (.int y) h = .ok (.int (g x y)) h := (rfl)
theorem cMul_l (h : -(2 ^ 64) < x ∧ x < 2 ^ 64) : cMul x y = true := decide_eq_true (.inl h)
theorem cMul_r (h : -(2 ^ 64) < y ∧ y < 2 ^ 64) : cMul x y = true := decide_eq_true (.inr h)
theorem oMul_l (hl : -18446744073709551616 < x ∧ x < 18446744073709551616) : oMul (.int x) (.int y) h = .ok (.int (x * y)) h := if_pos (cMul_l hl)
theorem oMul_r (hl : -18446744073709551616 < y ∧ y < 18446744073709551616) : oMul (.int x) (.int y) h = .ok (.int (x * y)) h := if_pos (cMul_r hl)
theorem log_small {j : Int} (h0 : 0 < j) (h : j < 2 ^ 200) : j.natAbs.log2 < 9000 := by
  have h1 : j.natAbs < 2 ^ 200 := by omega
  have h2 : j.natAbs.log2 < 200 := (Nat.log2_lt (by omega)).mpr h1
  omega
theorem oDiv_int (h0 : 0 < y) (hy : y < 1606938044258990275541962092341162602522202993782792835301376) : oDiv (.int x) (.int y) h = .ok (.int (x / y)) h :=
  if_pos (decide_eq_true ⟨h0, log_small h0 (by omega)⟩)
theorem oDiv_big (hy : 0 < y ∧ y.natAbs.log2 < 9000) : oDiv (.int x) (.int y) h = .ok (.int (x / y)) h := if_pos (decide_eq_true hy)
theorem oMod_int (h0 : 0 < y) : oMod (.int x) (.int y) h = .ok (.int (x % y)) h := if_pos (decide_eq_true h0)
theorem oShr_int (h0 : 0 ≤ y) : oShr (.int x) (.int y) h = .ok (.int (x / 2 ^ y.toNat)) h := if_pos (decide_eq_true h0)
theorem oPow_int (h0 : 0 ≤ y ∧ y ≤ 1000000 ∧ x.natAbs < 18446744073709551616) : oPow (.int x) (.int y) h = .ok (.int (x ^ y.toNat)) h := if_pos (decide_eq_true h0)
theorem oMul_lst (e : h[n]? = some (.lst p)) (hk : 0 ≤ x ∧ x ≤ 1000000) (hl : p.length * x.toNat ≤ 16777216) : oMul (.ref n) (.int x) h = .ok (.ref h.length) (h ++ [.lst (List.replicate x.toNat p).flatten]) := by
  have z : -(2 ^ 62) ≤ x ∧ x < 2 ^ 62 ∧ p.length * x.toNat ≤ 16777216 := ⟨by omega, by omega, hl⟩
  simp only [oMul, e, if_pos z]
@[simp] theorem oNeg_int : oNeg (.int x) h = .ok (.int (-x)) h := (rfl)
@[simp] theorem oOrd_int {g : Int → Int → Bool} : oOrd g (.int x) (.int y) h = .ok (.bl (g x y)) h := (rfl)
@[simp] theorem oEq_int : oEq (.int x) (.int y) h = .ok (.bl (decide (x = y))) h := (rfl)
@[simp] theorem oEq_str : oEq (.str a) (.str c) h = .ok (.bl (decide (a = c))) h := (rfl)
@[simp] theorem oEq_non : oEq .non .non h = .ok (.bl true) h := (rfl)
@[simp] theorem oNe_int : oNe (.int x) (.int y) h = .ok (.bl (!decide (x = y))) h := (rfl)
@[simp] theorem oNe_str : oNe (.str a) (.str c) h = .ok (.bl (!decide (a = c))) h := (rfl)
@[simp] theorem oNe_non : oNe .non .non h = .ok (.bl false) h := (rfl)
@[simp] theorem oEq_is : oEq (.int x) (.str c) h = .ok (.bl false) h := (rfl)
@[simp] theorem oEq_si : oEq (.str a) (.int y) h = .ok (.bl false) h := (rfl)
@[simp] theorem oNe_is : oNe (.int x) (.str c) h = .ok (.bl true) h := (rfl)
@[simp] theorem oNe_si : oNe (.str a) (.int y) h = .ok (.bl true) h := (rfl)
@[simp] theorem oEq_ns : oEq .non (.str c) h = .ok (.bl false) h := (rfl)
@[simp] theorem oEq_ni : oEq .non (.int y) h = .ok (.bl false) h := (rfl)
@[simp] theorem oEq_sn : oEq (.str a) .non h = .ok (.bl false) h := (rfl)
@[simp] theorem oEq_in : oEq (.int x) .non h = .ok (.bl false) h := (rfl)
@[simp] theorem oEq_bl {j : Bool} : oEq (.bl k) (.bl j) h = .ok (.bl (decide (k = j))) h := (rfl)
@[simp] theorem oIsN_non : oIsN .non .non h = .ok (.bl true) h := (rfl)
@[simp] theorem oIsN_int : oIsN (.int x) .non h = .ok (.bl false) h := (rfl)
@[simp] theorem oIsN_str : oIsN (.str a) .non h = .ok (.bl false) h := (rfl)
@[simp] theorem oIsN_bl : oIsN (.bl k) .non h = .ok (.bl false) h := (rfl)
@[simp] theorem oIsN_tup : oIsN (.tup p) .non h = .ok (.bl false) h := (rfl)
@[simp] theorem oIsN_rol : oIsN (.rol p) .non h = .ok (.bl false) h := (rfl)
@[simp] theorem oIsN_ref : oIsN (.ref n) .non h = .ok (.bl false) h := (rfl)
@[simp] theorem oIsB_bl {j : Bool} : oIsN (.bl k) (.bl j) h = .ok (.bl (decide (k = j))) h := (rfl)
@[simp] theorem oIsB_non {j : Bool} : oIsN .non (.bl j) h = .ok (.bl false) h := (rfl)
@[simp] theorem oIsB_int {j : Bool} : oIsN (.int x) (.bl j) h = .ok (.bl false) h := (rfl)
@[simp] theorem oIsB_str {j : Bool} : oIsN (.str a) (.bl j) h = .ok (.bl false) h := (rfl)
@[simp] theorem oIsB_tup {j : Bool} : oIsN (.tup p) (.bl j) h = .ok (.bl false) h := (rfl)
@[simp] theorem oIsB_rol {j : Bool} : oIsN (.rol p) (.bl j) h = .ok (.bl false) h := (rfl)
@[simp] theorem oIsB_ref {j : Bool} : oIsN (.ref n) (.bl j) h = .ok (.bl false) h := (rfl)
@[simp] theorem oNotN_non : oNotN .non .non h = .ok (.bl false) h := (rfl)
@[simp] theorem oNotN_int : oNotN (.int x) .non h = .ok (.bl true) h := (rfl)
@[simp] theorem oNotN_str : oNotN (.str a) .non h = .ok (.bl true) h := (rfl)
@[simp] theorem oNotN_bl : oNotN (.bl k) .non h = .ok (.bl true) h := (rfl)
@[simp] theorem oNotN_tup : oNotN (.tup p) .non h = .ok (.bl true) h := (rfl)
@[simp] theorem oNotN_rol : oNotN (.rol p) .non h = .ok (.bl true) h := (rfl)
@[simp] theorem oNotN_ref : oNotN (.ref n) .non h = .ok (.bl true) h := (rfl)
theorem oIx_tup (e : L2.atI p x = some d) : oIx (.tup p) (.int x) h = .ok d h := by simp only [oIx, e]
theorem oIx_rol (e : L2.atI p x = some d) : oIx (.rol p) (.int x) h = .ok d h := by simp only [oIx, e]
theorem oIx_lst (e1 : h[n]? = some (.lst p)) (e : L2.atI p x = some d) : oIx (.ref n) (.int x) h = .ok d h := by simp only [oIx, e1, e]
@[simp] theorem bInt_int : bInt [.int x] h = .ok (.int x) h := (rfl)
@[simp] theorem bInt_bl : bInt [.bl k] h = .ok (.int (if k then 1 else 0)) h := (rfl)
@[simp] theorem bLen_tup : bLen [.tup p] h = .ok (.int p.length) h := (rfl)
@[simp] theorem bLen_rol : bLen [.rol p] h = .ok (.int p.length) h := (rfl)
theorem bLen_lst (e : h[n]? = some (.lst p)) : bLen [.ref n] h = .ok (.int p.length) h := by simp only [bLen, e]
theorem bLen_str (hl : a.length ≤ 16777216) : bLen [.str a] h = .ok (.int a.length) h := if_pos hl
@[simp] theorem bList_tup : bList [.tup p] h = .ok (.ref h.length) (h ++ [.lst p]) := (rfl)
@[simp] theorem bList_rol : bList [.rol p] h = .ok (.ref h.length) (h ++ [.lst p]) := (rfl)
theorem bList_lst (e : h[n]? = some (.lst p)) : bList [.ref n] h = .ok (.ref h.length) (h ++ [.lst p]) := by simp only [bList, e]
@[simp] theorem bTuple_tup : bTuple [.tup p] h = .ok (.tup p) h := (rfl)
@[simp] theorem bTuple_rol : bTuple [.rol p] h = .ok (.tup p) h := (rfl)
theorem bTuple_lst (e : h[n]? = some (.lst p)) : bTuple [.ref n] h = .ok (.tup p) h := by simp only [bTuple, e]
@[simp] theorem bStrX_str : bStrX [.str a] h = .ok (.str a) h := (rfl)
theorem bStrX_int (hl : x.natAbs.log2 < 1920) : bStrX [.int x] h = .ok (.str (toString x)) h := if_pos hl
@[simp] theorem oSl_tup {lo hi : Option Int} : oSl (.tup p) lo hi h = .ok (.tup (cutD p lo hi)) h := (rfl)
@[simp] theorem oSl_rol {lo hi : Option Int} : oSl (.rol p) lo hi h = .ok (.ref h.length) (h ++ [.lst (cutD p lo hi)]) := (rfl)
theorem oSl_lst {lo hi : Option Int} (e : h[n]? = some (.lst p)) : oSl (.ref n) lo hi h = .ok (.ref h.length) (h ++ [.lst (cutD p lo hi)]) := by simp only [oSl, e]
theorem mAppend_lst (e : h[n]? = some (.lst p)) (hl : p.length < 16777216) : mAppend (.ref n) [d] h = .ok .non (h.set n (.lst (p ++ [d]))) := by simp only [mAppend, e, if_pos hl]
theorem rcv_lst (e : h[n]? = some (.lst p)) : rcvD "list" h (.ref n) = true := by simp only [rcvD, e]; rfl
@[simp] theorem rcv_str : rcvD "str" h (.str a) = true := (rfl)
@[simp] theorem tyD_non : tyD h .non = some .non := (rfl)
@[simp] theorem tyD_bl : tyD h (.bl k) = some .bl := (rfl)
@[simp] theorem tyD_int : tyD h (.int x) = some .int := (rfl)
@[simp] theorem tyD_str : tyD h (.str a) = some .str := (rfl)
@[simp] theorem tyD_tup : tyD h (.tup p) = some .tup := (rfl)
@[simp] theorem tyD_rol : tyD h (.rol p) = some .lst := (rfl)
theorem tyD_lst (e : h[n]? = some (.lst p)) : tyD h (.ref n) = some .lst := by simp only [tyD, e]
theorem rngS_one (hl : 0 ≤ x ∧ x ≤ 1000000000) : rngS [.int x] h = .ok ⟨rngD 0 x.toNat, fun _ => True⟩ h := if_pos ⟨by omega, by omega⟩
theorem rngS_two (hl : -1000000000 ≤ x ∧ x ≤ 1000000000) (hr : -1000000000 ≤ y ∧ y ≤ 1000000000) : rngS [.int x, .int y] h = .ok ⟨rngD x (y - x).toNat, fun _ => True⟩ h := if_pos ⟨⟨by omega, by omega⟩, ⟨by omega, by omega⟩⟩
@[simp] theorem charS_str : charS (.str a) h = .ok ⟨a.cps.toList.map fun c => D.str ⟨#[c]⟩, fun _ => True⟩ h := (rfl)
@[simp] theorem has_ii : TN.has .int .int = some true := (rfl)
@[simp] theorem has_ib : TN.has .int .bl = some true := (rfl)
@[simp] theorem has_is : TN.has .int .str = some false := (rfl)
@[simp] theorem has_it : TN.has .int .tup = some false := (rfl)
@[simp] theorem has_il : TN.has .int .lst = some false := (rfl)
@[simp] theorem has_in : TN.has .int .non = some false := (rfl)
@[simp] theorem has_id : TN.has .int .dic = some false := (rfl)
@[simp] theorem has_bb : TN.has .bl .bl = some true := (rfl)
@[simp] theorem has_bi : TN.has .bl .int = some false := (rfl)
@[simp] theorem has_bs : TN.has .bl .str = some false := (rfl)
@[simp] theorem has_bt : TN.has .bl .tup = some false := (rfl)
@[simp] theorem has_bl : TN.has .bl .lst = some false := (rfl)
@[simp] theorem has_bn : TN.has .bl .non = some false := (rfl)
@[simp] theorem has_ss : TN.has .str .str = some true := (rfl)
@[simp] theorem has_si : TN.has .str .int = some false := (rfl)
@[simp] theorem has_sb : TN.has .str .bl = some false := (rfl)
@[simp] theorem has_st : TN.has .str .tup = some false := (rfl)
@[simp] theorem has_sl : TN.has .str .lst = some false := (rfl)
@[simp] theorem has_sn : TN.has .str .non = some false := (rfl)
@[simp] theorem has_tt : TN.has .tup .tup = some true := (rfl)
@[simp] theorem has_ti : TN.has .tup .int = some false := (rfl)
@[simp] theorem has_tb : TN.has .tup .bl = some false := (rfl)
@[simp] theorem has_ts : TN.has .tup .str = some false := (rfl)
@[simp] theorem has_tl : TN.has .tup .lst = some false := (rfl)
@[simp] theorem has_tn : TN.has .tup .non = some false := (rfl)
@[simp] theorem has_ll : TN.has .lst .lst = some true := (rfl)
@[simp] theorem has_li : TN.has .lst .int = some false := (rfl)
@[simp] theorem has_lb : TN.has .lst .bl = some false := (rfl)
@[simp] theorem has_ls : TN.has .lst .str = some false := (rfl)
@[simp] theorem has_lt : TN.has .lst .tup = some false := (rfl)
@[simp] theorem has_ln : TN.has .lst .non = some false := (rfl)
end
/-! ### what is walked -/
@[simp] theorem iterS_tup {ds : List D} : iterS (.tup ds) h = .ok ⟨ds, fun _ => True⟩ h := by
  unfold iterS
  simp only [itemsD]
@[simp] theorem iterS_rol {ds : List D} : iterS (.rol ds) h = .ok ⟨ds, fun _ => True⟩ h := by
  unfold iterS
  simp only [itemsD]
theorem iterS_ref {n : Nat} {ds : List D} (e : h[n]? = some (.lst ds)) : iterS (.ref n) h = .ok ⟨ds, fun h' => h'[n]? = some (.lst ds)⟩ h := by
  unfold iterS
  simp only [itemsD, e]
  congr
  funext h'
  cases e2 : h'[n]? with
  | none => simp
  | some c => cases c <;> simp
theorem enumS_ref {n : Nat} {ds : List D} (e : h[n]? = some (.lst ds)) : enumS (.ref n) h = .ok ⟨pairs ds, fun h' => h'[n]? = some (.lst ds)⟩ h := by
  unfold enumS
  simp only [lstD, e]
  congr
  funext h'
  cases e2 : h'[n]? with
  | none => simp
  | some c => cases c <;> simp
@[simp] theorem enumS_rol {ds : List D} : enumS (.rol ds) h = .ok ⟨pairs ds, fun _ => True⟩ h := by
  unfold enumS
  simp only [lstD]
theorem forL_nil {keep : DH → Prop} {gg : DG} (k : keep h) : forL keep gg b [] σ h = .nx σ h := by
  unfold forL
  rw [if_pos k]
/-- one turn -/
def RS.turn (r : RS) (k : DE → DH → RS) : RS := match r with
  | .nx σ h => k σ h
  | .ct σ h => k σ h
  | .bk σ h => .nx σ h
  | x => x
@[simp] theorem RS.turn_nx {k : DE → DH → RS} : RS.turn (.nx σ h) k = k σ h := (rfl)
@[simp] theorem RS.turn_ct {k : DE → DH → RS} : RS.turn (.ct σ h) k = k σ h := (rfl)
@[simp] theorem RS.turn_bk {k : DE → DH → RS} : RS.turn (.bk σ h) k = .nx σ h := (rfl)
@[simp] theorem RS.turn_rt {k : DE → DH → RS} : RS.turn (.rt d h) k = .rt d h := (rfl)
@[simp] theorem RS.turn_exc {k : DE → DH → RS} {e : Exv} : RS.turn (.exc e σ h) k = .exc e σ h := (rfl)
theorem forL_cons {keep : DH → Prop} {gg : DG} {ds : List D} {σ1 : DE} (k : keep h) (hg : gg d σ = some σ1) : forL keep gg b (d :: ds) σ h = (b σ1 h).turn (forL keep gg b ds) := by
  rw [forL]
  simp only [if_pos k, hg, RS.turn]
  all_goals (cases b σ1 h <;> rfl)
theorem lcL_nil {keep : DH → Prop} {gg : DG} {n : Nat} (k : keep h) : lcL keep gg t f σ n [] h = .ok (.ref n) h := by
  unfold lcL
  rw [if_pos k]
theorem lcL_cons {keep : DH → Prop} {gg : DG} {n : Nat} {ds : List D} {σ1 : DE} (k : keep h) (hg : gg d σ = some σ1) : lcL keep gg t f σ n (d :: ds) h =
    (nox (t σ1 h)).bind fun b h1 => if b = true then (nox (f σ1 h1)).bind fun y h2 => (match h2[n]? with
        | some (.lst acc) => if acc.length < 16777216 then lcL keep gg t f σ n ds (h2.set n (.lst (acc ++ [y]))) else .bad
        | _ => .bad) else lcL keep gg t f σ n ds h1 := by
  rw [lcL, if_pos k, hg]
  all_goals rfl
/-- one turn of a comprehension without a test, the new item y; garbage g -/
theorem lcL_turn {keep : DH → Prop} {gg : DG} {n : Nat} {ds acc : List D} {σ1 : DE} {y : D} {h2 : DH} (k : keep h) (hg : gg d σ = some σ1) (hf : f σ1 h = .ok y h2) (hn : h2[n]? = some (.lst acc)) (hl : acc.length < 16777216) :
    lcL keep gg dYes f σ n (d :: ds) h = lcL keep gg dYes f σ n ds (h2.set n (.lst (acc ++ [y]))) := by
  rw [lcL_cons k hg]
  simp only [dYes_ap, nox_ok, Res.bind, if_pos, hf, hn, if_pos hl]
end
/-! ### heaps -/
section
variable {h g : DH} {c c' : Cell} {n : Nat}
@[simp] theorem at_new : (h ++ [c])[h.length]? = some c := by rw [List.getElem?_append_right (Nat.le_refl _), Nat.sub_self]; rfl
@[simp] theorem set_new : (h ++ [c]).set h.length c' = h ++ [c'] := by
  rw [List.set_append_right _ _ (Nat.le_refl _), Nat.sub_self]
  rfl
theorem at_old (e : h[n]? = some c) : (h ++ g)[n]? = some c := by
  rw [List.getElem?_append_left (List.getElem?_eq_some_iff.mp e).1]
  exact e
theorem at_old1 (e : h[n]? = some c) : (h ++ [c'])[n]? = some c := at_old e
theorem lt_of_at (e : h[n]? = some c) : n < h.length := (List.getElem?_eq_some_iff.mp e).1
end
/-- a comprehension over items by a function that leaves the heap: fs d is the item's value -/
theorem lc_pure {keep : DH → Prop} {gg : DG} {e : FE} {σ : DE} {h : DH} (F : D → D) : ∀ (ds : List D) (acc : List D), (∀ h', (∃ a, h' = h ++ [.lst a]) → keep h') → acc.length + ds.length < 16777216 →
    (∀ d ∈ ds, ∃ σ1, gg d σ = some σ1 ∧ ∀ h', e σ1 h' = .ok (F d) h') → lcL keep gg dYes e σ h.length ds (h ++ [.lst acc]) = .ok (.ref h.length) (h ++ [.lst (acc ++ ds.map F)])
  | [], acc, hk, hl, he => by rw [lcL_nil (hk _ ⟨acc, rfl⟩), List.map_nil, List.append_nil]
  | d :: ds, acc, hk, hl, he => by
    obtain ⟨σ1, h1, h2⟩ := he d (List.mem_cons_self ..)
    rw [List.length_cons] at hl
    rw [lcL_turn (hk _ ⟨acc, rfl⟩) h1 (h2 _) at_new (by omega), set_new, lc_pure F ds (acc ++ [F d]) hk (by rw [List.length_append, List.length_singleton]; omega) (fun x hx => he x (List.mem_cons_of_mem _ hx)), List.map_cons, List.append_assoc]
    rfl
/-- a comprehension whose items leave things behind -/
theorem lc_grow {keep : DH → Prop} {gg : DG} {e : FE} {σ : DE} {h0 : DH} (F : D → D) (hk : ∀ t, keep (h0 ++ t)) : ∀ (ds : List D), (∀ d ∈ ds, ∃ σ1, gg d σ = some σ1 ∧ ∀ t, ∃ g, e σ1 (h0 ++ t) = .ok (F d) (h0 ++ t ++ g)) →
    ∀ (acc : List D) (g : DH), acc.length + ds.length < 16777216 → ∃ g', lcL keep gg dYes e σ h0.length ds (h0 ++ Cell.lst acc :: g) = .ok (.ref h0.length) (h0 ++ Cell.lst (acc ++ ds.map F) :: g')
  | [], _, acc, g, _ => ⟨g, by rw [lcL_nil (hk _), List.map_nil, List.append_nil]⟩
  | d :: ds, he, acc, g, hl => by
    obtain ⟨σ1, h1, h2⟩ := he d (List.mem_cons_self ..)
    obtain ⟨g2, h3⟩ := h2 (Cell.lst acc :: g)
    rw [List.length_cons] at hl
    have at0 : (h0 ++ Cell.lst acc :: g ++ g2)[h0.length]? = some (Cell.lst acc) := by simp
    obtain ⟨g', e'⟩ := lc_grow F hk ds (fun x hx => he x (List.mem_cons_of_mem _ hx)) (acc ++ [F d]) (g ++ g2) (by rw [List.length_append, List.length_singleton]; omega)
    refine ⟨g', ?_⟩
    rw [lcL_turn (hk _) h1 h3 at0 (by omega)]
    have s0 : (h0 ++ Cell.lst acc :: g ++ g2).set h0.length (Cell.lst (acc ++ [F d])) = h0 ++ Cell.lst (acc ++ [F d]) :: (g ++ g2) := by simp
    rw [s0, e', List.map_cons, List.append_assoc]
    rfl
theorem rng0 (m : Nat) : rngD 0 m = (List.range' 0 m).map fun (i : Nat) => D.int ((i : Nat) : Int) := by
  unfold rngD
  rw [List.range_eq_range']
  simp
/-! ### texts -/
theorem str_ext {a b : Str} (h : a.cps.toList = b.cps.toList) : a = b := by
  obtain ⟨⟨x⟩⟩ := a
  obtain ⟨⟨y⟩⟩ := b
  cases h
  rfl
@[simp] theorem cps_append (a b : Str) : (a ++ b).cps.toList = a.cps.toList ++ b.cps.toList := Array.toList_append
theorem str_assoc (a b c : Str) : a ++ b ++ c = a ++ (b ++ c) := str_ext (by simp)
theorem len_cps (a : Str) : a.length = a.cps.toList.length := Array.length_toList.symm
@[simp] theorem len_append (a b : Str) : (a ++ b).length = a.length + b.length := by rw [len_cps, len_cps, len_cps, cps_append, List.length_append]
theorem strsD_map : ∀ l : List Str, strsD (l.map D.str) = some l
  | [] => rfl
  | a :: l => by rw [List.map_cons, strsD, strsD_map l]; rfl
theorem mJoin_lst {h : DH} {n : Nat} {a : Str} {l : List Str} (e : h[n]? = some (.lst (l.map D.str))) (hl : (l.map (·.length)).sum + l.length * a.length ≤ 16777216) : mJoin (.str a) [.ref n] h = .ok (.str (Str.join a l)) h := by
  simp only [mJoin, itemsD, e, strsD_map, if_pos hl, TL.join_eq]
theorem mSplit_str {h : DH} {a b : Str} (h1 : b.length ≠ 0) (h2 : a.length + 2 ≤ 16777216) : mSplit (.str a) [.str b] h = .ok (.ref h.length) (h ++ [.lst ((Txt.split a b).map D.str)]) := by
  have z : (b.length == 0) = false ∧ a.length + 2 ≤ 16777216 := ⟨by simpa using h1, h2⟩
  simp only [mSplit, if_pos z]
section
variable {h : DH} {p : List D} {x : Int} {d : D}
/-- an item that may lack -/
def getR (o : Option D) (h : DH) : Res D := match o with
  | some d => .ok d h
  | none => .bad
@[simp] theorem getR_some : getR (some d) h = .ok d h := (rfl)
@[simp] theorem getR_none : getR none h = .bad := (rfl)
theorem oIx_at {n : Nat} (e : h[n]? = some (Cell.lst p)) : oIx (.ref n) (.int x) h = getR (L2.atI p x) h := by
  simp only [oIx, e]
  rfl
theorem oIx_new : oIx (.ref h.length) (.int x) (h ++ [Cell.lst p]) = getR (L2.atI p x) (h ++ [Cell.lst p]) := oIx_at at_new
theorem oIx_tupX : oIx (.tup p) (.int x) h = getR (L2.atI p x) h := (rfl)
theorem oIx_rolX : oIx (.rol p) (.int x) h = getR (L2.atI p x) h := (rfl)
/-- an index as written -/
theorem atI_0 {a : D} {l : List D} : L2.atI (a :: l) 0 = some a := L2.atI_nat (j := 0) rfl
theorem atI_1 {a b : D} {l : List D} : L2.atI (a :: b :: l) 1 = some b := L2.atI_nat (j := 1) rfl
theorem atI_2 {a b c : D} {l : List D} : L2.atI (a :: b :: c :: l) 2 = some c := L2.atI_nat (j := 2) rfl
theorem atI_3 {a b c e : D} {l : List D} : L2.atI (a :: b :: c :: e :: l) 3 = some e := L2.atI_nat (j := 3) rfl
theorem atI_4 {a b c e f : D} {l : List D} : L2.atI (a :: b :: c :: e :: f :: l) 4 = some f := L2.atI_nat (j := 4) rfl
theorem atI_5 {a b c e f g : D} {l : List D} : L2.atI (a :: b :: c :: e :: f :: g :: l) 5 = some g := L2.atI_nat (j := 5) rfl
theorem atI_n {l : List D} {n : Nat} (e : l[n]? = some d) : L2.atI l (n : Int) = some d := L2.atI_nat e
theorem atI_neg1 {l : List D} : L2.atI (l ++ [d]) (-1) = some d := L2.atI_last l d
end
@[simp] theorem ofString_inj {a b : String} : Str.ofString a = Str.ofString b ↔ a = b := by
  refine ⟨fun h => ?_, fun h => by rw [h]⟩
  rw [Str.ofString_eq_toList, Str.ofString_eq_toList] at h
  have h1 : a.toList.map Char.toNat = b.toList.map Char.toNat := by
    have := congrArg (fun z : Str => z.cps.toList) h
    simpa using this
  have inj : ∀ l m : List Char, l.map Char.toNat = m.map Char.toNat → l = m := fun l => by
    induction l with
    | nil => intro m h; cases m with
      | nil => rfl
      | cons => cases h
    | cons x l ih => intro m h; cases m with
      | nil => cases h
      | cons y m =>
        rw [List.map_cons, List.map_cons] at h
        injection h with h2 h3
        rw [ih m h3, Char.toNat_inj.mp h2]
  have h3 := inj _ _ h1
  exact String.toList_inj.mp h3
end DL

/-! The data layer: loops by an invariant; heaps with new cells at the end. -/
namespace DL
open PySem PySem.Spec L2
open PyProof.Rows hiding St
section
variable {keep : DH → Prop} {gg : DG} {b : FS}
/-- a for over data, by what holds before turn i -/
theorem for_at {ds : List D} (I : Nat → DE → DH → Prop) (P : RS → Prop)
    (h0 : ∀ σ h, I ds.length σ h → keep h ∧ P (.nx σ h))
    (hs : ∀ i d σ h, ds[i]? = some d → I i σ h → keep h ∧ ∃ σ1, gg d σ = some σ1 ∧
      ((∃ σ' h', (b σ1 h = .nx σ' h' ∨ b σ1 h = .ct σ' h') ∧ I (i + 1) σ' h') ∨ (∃ v h', b σ1 h = .rt v h' ∧ P (.rt v h')) ∨ (∃ σ' h', b σ1 h = .bk σ' h' ∧ P (.nx σ' h')))) :
    ∀ σ h, I 0 σ h → P (forL keep gg b ds σ h) := by
  suffices key : ∀ (r : List D) (i : Nat) (σ : DE) (h : DH), ds.drop i = r → i ≤ ds.length → I i σ h → P (forL keep gg b r σ h) from
    fun σ h hi => key ds 0 σ h rfl (Nat.zero_le _) hi
  intro r
  induction r with
  | nil =>
    intro i σ h e le hi
    have : i = ds.length := by
      have := congrArg List.length e
      rw [List.length_drop, List.length_nil] at this
      omega
    subst this
    obtain ⟨k, p⟩ := h0 σ h hi
    rw [forL_nil k]
    exact p
  | cons d r ih =>
    intro i σ h e le hi
    have hd : ds[i]? = some d := by
      have := congrArg (·[0]?) e
      simpa using this
    have hr : ds.drop (i + 1) = r := by
      rw [← List.tail_drop, e]
      rfl
    have lt : i < ds.length := (List.getElem?_eq_some_iff.mp hd).1
    obtain ⟨k, σ1, hg, o⟩ := hs i d σ h hd hi
    rw [forL_cons k hg]
    rcases o with ⟨σ', h', e1, hi'⟩ | ⟨v, h', e1, p⟩ | ⟨σ', h', e1, p⟩
    · rcases e1 with e1 | e1
      · rw [e1, RS.turn_nx]
        exact ih (i + 1) σ' h' hr lt hi'
      · rw [e1, RS.turn_ct]
        exact ih (i + 1) σ' h' hr lt hi'
    · rw [e1, RS.turn_rt]
      exact p
    · rw [e1, RS.turn_bk]
      exact p
/-- a for that always goes on to its end -/
theorem for_run {ds : List D} (I : Nat → DE → DH → Prop)
    (hk : ∀ i σ h, I i σ h → keep h)
    (hs : ∀ i d σ h, ds[i]? = some d → I i σ h → ∃ σ1, gg d σ = some σ1 ∧ ∃ σ' h', (b σ1 h = .nx σ' h' ∨ b σ1 h = .ct σ' h') ∧ I (i + 1) σ' h') :
    ∀ σ h, I 0 σ h → ∃ σ' h', forL keep gg b ds σ h = .nx σ' h' ∧ I ds.length σ' h' :=
  for_at I (fun r => ∃ σ' h', r = .nx σ' h' ∧ I ds.length σ' h') (fun σ h hi => ⟨hk _ _ _ hi, _, _, rfl, hi⟩) fun i d σ h e hi => by
    obtain ⟨σ1, hg, o⟩ := hs i d σ h e hi
    exact ⟨hk _ _ _ hi, σ1, hg, .inl o⟩
/-- the same for a comprehension: what its list holds after each item -/
theorem lc_run {e : FE} {σ : DE} {h0 : DH} {ds : List D} (F : Nat → D) (hk : ∀ t, keep (h0 ++ t)) (hl : ds.length < 16777216)
    (he : ∀ i d, ds[i]? = some d → ∃ σ1, gg d σ = some σ1 ∧ ∀ t, ∃ g, e σ1 (h0 ++ t) = .ok (F i) (h0 ++ t ++ g)) :
    ∃ g', lcL keep gg dYes e σ h0.length ds (h0 ++ [Cell.lst []]) = .ok (.ref h0.length) (h0 ++ Cell.lst ((List.range ds.length).map F) :: g') := by
  suffices key : ∀ (r : List D) (i : Nat) (g : DH), ds.drop i = r → i ≤ ds.length →
      ∃ g', lcL keep gg dYes e σ h0.length r (h0 ++ Cell.lst ((List.range i).map F) :: g) = .ok (.ref h0.length) (h0 ++ Cell.lst ((List.range ds.length).map F) :: g') from
    key ds 0 [] rfl (Nat.zero_le _)
  intro r
  induction r with
  | nil =>
    intro i g e1 le
    have : i = ds.length := by
      have := congrArg List.length e1
      rw [List.length_drop, List.length_nil] at this
      omega
    subst this
    exact ⟨g, by rw [lcL_nil (hk _)]⟩
  | cons d r ih =>
    intro i g e1 le
    have hd : ds[i]? = some d := by
      have := congrArg (·[0]?) e1
      simpa using this
    have hr : ds.drop (i + 1) = r := by
      rw [← List.tail_drop, e1]
      rfl
    have lt : i < ds.length := (List.getElem?_eq_some_iff.mp hd).1
    obtain ⟨σ1, h1, h2⟩ := he i d hd
    obtain ⟨g2, h3⟩ := h2 (Cell.lst ((List.range i).map F) :: g)
    have at0 : (h0 ++ Cell.lst ((List.range i).map F) :: g ++ g2)[h0.length]? = some (Cell.lst ((List.range i).map F)) := by simp
    obtain ⟨g', e'⟩ := ih (i + 1) (g ++ g2) hr lt
    refine ⟨g', ?_⟩
    rw [lcL_turn (hk _) h1 h3 at0 (by rw [List.length_map, List.length_range]; omega)]
    have s0 : (h0 ++ Cell.lst ((List.range i).map F) :: g ++ g2).set h0.length (Cell.lst ((List.range i).map F ++ [F i])) = h0 ++ Cell.lst ((List.range (i + 1)).map F) :: (g ++ g2) := by
      simp [List.range_succ]
    rw [s0, e']
end
theorem range_map_get {α : Type} {l : List α} {f : α → D} {F : Nat → D} (h : ∀ i a, l[i]? = some a → F i = f a) : (List.range l.length).map F = l.map f := by
  refine List.ext_getElem? fun i => ?_
  rw [List.getElem?_map, List.getElem?_map]
  rcases Nat.lt_or_ge i l.length with lt | ge
  · rw [List.getElem?_range lt, List.getElem?_eq_getElem lt]
    exact congrArg some (h i _ (List.getElem?_eq_getElem lt))
  · rw [List.getElem?_eq_none (by rw [List.length_range]; omega), List.getElem?_eq_none ge]
    rfl
theorem take_next {α : Type} {l : List α} {i : Nat} {a : α} (h : l[i]? = some a) : l.take (i + 1) = l.take i ++ [a] := by
  rw [List.take_add_one, h]
  rfl
theorem pairs_at {ds : List D} {i : Nat} : (pairs ds)[i]? = ds[i]?.map fun x => D.tup [.int (i : Nat), x] := by
  unfold pairs
  rw [List.getElem?_map, List.getElem?_zipIdx]
  cases ds[i]? <;> simp
theorem map_at {α : Type} {l : List α} {f : α → D} {i : Nat} {d : D} (h : (l.map f)[i]? = some d) : ∃ a, l[i]? = some a ∧ d = f a := by
  rw [List.getElem?_map] at h
  obtain ⟨a, e, rfl⟩ := Option.map_eq_some_iff.mp h
  exact ⟨a, e, rfl⟩
/-! ### heaps with new cells at the end -/
section
variable {h l : DH} {c : Cell} {k n : Nat} {p : List D} {d : D}
theorem hp_0 : (h ++ c :: l)[h.length]? = some c := by simp
theorem hp_k : (h ++ l)[h.length + k]? = l[k]? := by rw [List.getElem?_append_right (by omega)]; congr 1; omega
theorem hs_0 : (h ++ c :: l).set h.length d' = h ++ d' :: l := by simp
theorem hs_k : (h ++ l).set (h.length + k) c = h ++ l.set k c := by rw [List.set_append_right _ _ (by omega)]; congr 2; omega
theorem old_at (e : h[n]? = some c) : ∀ g, (h ++ g)[n]? = some c := fun _ => at_old e
theorem old_set (e : n < h.length) : ∀ g, (h ++ g).set n c = h.set n c ++ g := fun _ => List.set_append_left _ _ e
/-- a list's cell, by case -/
def lsD (o : Option Cell) : Option (List D) := match o with
  | some (.lst p) => some p
  | _ => none
@[simp] theorem lsD_lst : lsD (some (.lst p)) = some p := (rfl)
def onL {α : Type} (o : Option (List D)) (k : List D → Res α) : Res α := match o with
  | some p => k p
  | none => .bad
@[simp] theorem onL_some {α : Type} {k : List D → Res α} : onL (some p) k = k p := (rfl)
theorem rcv_at : rcvD "list" h (.ref n) = (match h[n]? with
    | some (.lst _) => true
    | some (.dic _) => false
    | _ => false) := by
  simp only [rcvD]
  rcases h[n]? with _ | ⟨_ | _ | _ | _⟩ <;> rfl
/-- an index into what is no list -/
def ixO (n : Nat) (x : Int) (h : DH) : Res D := oIx (.ref n) (.int x) h
theorem ix_at {x : Int} : oIx (.ref n) (.int x) h = (match h[n]? with
    | some (.lst p) => getR (L2.atI p x) h
    | _ => ixO n x h) := by
  rcases e : h[n]? with _ | ⟨_ | _ | _ | _⟩ <;> first | rfl | exact oIx_at e
theorem app_at : mAppend (.ref n) [d] h = (match h[n]? with
    | some (.lst p) => if p.length < 16777216 then .ok .non (h.set n (.lst (p ++ [d]))) else .bad
    | _ => .bad) := (rfl)
theorem len_at : bLen [.ref n] h = (match h[n]? with
    | some (.lst p) => .ok (.int p.length) h
    | _ => .bad) := (rfl)
theorem list_at : bList [.ref n] h = (match h[n]? with
    | some (.lst p) => .ok (.ref h.length) (h ++ [.lst p])
    | _ => .bad) := (rfl)
theorem tuple_at : bTuple [.ref n] h = (match h[n]? with
    | some (.lst p) => .ok (.tup p) h
    | _ => .bad) := (rfl)
theorem sl_at {lo hi : Option Int} : oSl (.ref n) lo hi h = (match h[n]? with
    | some (.lst p) => .ok (.ref h.length) (h ++ [.lst (cutD p lo hi)])
    | _ => .bad) := (rfl)
theorem add_at {m : Nat} : oAdd (.ref m) (.ref n) h = (match h[m]?, h[n]? with
    | some (.lst a), some (.lst b) => if a.length + b.length ≤ 16777216 then .ok (.ref h.length) (h ++ [.lst (a ++ b)]) else .bad
    | _, _ => .bad) := (rfl)
theorem iter_at : iterS (.ref n) h = (match h[n]? with
    | some (.lst p) => .ok ⟨p, fun h' => h'[n]? = some (.lst p)⟩ h
    | _ => .bad) := by
  rcases e : h[n]? with _ | ⟨_ | _ | _ | _⟩ <;> first | exact iterS_ref e | simp only [iterS, itemsD, e]
end
end DL

/-! The data layer: list(reversed(a list)). -/
namespace RT
open PySem PySem.Spec PyProof.Rows L2
section
variable {prog : Program} {w : World} {A : Around} {E : Value → Shared → Prop} {s : Shared}
theorem init_list_rev {R : Result → Shared → Prop} {it l : Addr} {items : Array Value} (hh : A.handled = none) (hit : s.heap.IsRevIter it l ((items.size : Int) - 1)) (hl : s.heap.IsList l items) (hne : l ≠ it) (hn : items.size ≤ sizeLine) (S : Addr) (hS : s.heap.get? S = some { cls := .type "list", data := .seq #[] })
    (hSi : S ≠ it) (hSl : S ≠ l)
    (hR : ∀ h' tk acc' c', (∀ b o, b ≠ S → b ≠ it → s.heap.get? b = some o → h'.get? b = some o) → h'.get? S = some { cls := .type "list", dict := none, data := .seq acc' c', slots := #[] } →
      ItemsOf (fun i v => items[items.size - 1 - i]? = some v) acc' items.size → R (.ok (.ret .none)) { s with heap := h', toks := tk }) :
    wpAny (model prog w) A.in1 (Builtin.«list.__init__» ⟨[.ref S, .ref it], []⟩)
      (fun fin s' => match fin with | .done f => R (.ok f) s' | .again c' => c'.quiet = true ∧ codeAny (model prog w) A c' R s') (fun e s' => R (.error e) s') s := by
  show wpAny _ _ (do let old ← Builtin.List.listItems (.ref S); Builtin.List.listUpdate (.ref S) (fun _ => #[]); letGo old.toList.reverse; Builtin.List.listExtendWith (.ref S) (.ref it) .none) _ _ s
  refine wpAny_bind ?_
  unfold Builtin.List.listItems
  refine wpAny_bind (wpAny_seqItems hS rfl (wpAny_pure ?_))
  show wpAny _ _ (updateSeq S (fun _ => #[]) >>= fun _ => letGo (#[] : Array Value).toList.reverse >>= fun _ => Builtin.List.listExtendWith (.ref S) (.ref it) .none) _ _ s
  refine wpAny_bind (wpAny_updateSeq hS rfl ?_)
  have hS1 := Heap.get?_update_self (Obj.mapSeq (fun _ => (#[] : Array Value))) hS rfl
  have oth : ∀ b o, b ≠ S → s.heap.get? b = some o → (s.heap.update S (Obj.mapSeq (fun _ => (#[] : Array Value)))).get? b = some o :=
    fun b o hb e => (Heap.get?_update_other _ _ (Ne.symm hb)).trans e
  refine wpAny_bind (wpAny_letGo ?_)
  generalize s.heap.update S (Obj.mapSeq (fun _ => (#[] : Array Value))) = h1 at hS1 oth ⊢
  have W := (Walks.listRev (prog := prog) (w := w) (A := A.in1) hh it l hne items).toS
  have hit1 : h1.IsRevIter it l ((items.size : Int) - 1) := hit.at fun o e => oth _ _ (Ne.symm hSi) e
  have hl1 : h1.IsList l items := by
    obtain ⟨o, e, r⟩ := hl
    exact ⟨o, oth _ _ (Ne.symm hSl) e, r⟩
  have hSf : S ∉ [it, l] := by simp only [List.mem_cons, List.not_mem_nil, or_false, not_or]; exact ⟨hSi, hSl⟩
  have hT : ({ s with heap := h1 } : Shared).TypeIs (.ref it) "list_reverseiterator" := Heap.IsRevIter.typeIs (s := { s with heap := h1 }) hit1
  have g1 : Builtin.List.listSameRef (.ref S) (.ref it) = false := by simp [Builtin.List.listSameRef, hSi]
  unfold Builtin.List.listExtendWith
  refine wpAny_bind (wpAny_typeOf hT ?_)
  rw [if_neg (by rw [g1]; decide)]
  refine wpAny_bind (wpAny_pyIter_revIter (s := { s with heap := h1 }) hit1 ?_)
  refine wpAny_bind (wpAny_holding ?_)
  unfold Builtin.List.listLengthHint
  refine wpAny_bind (wpAny_specialOf hT nolen_lri ?_)
  show wpAny _ A.in1 (specialOf (Value.ref it) (Str.ofString "__length_hint__") >>= _) _ _ _
  refine wpAny_bind (wpAny_specialOf hT hint_lri ?_)
  generalize hid : ("list_reverseiterator.__length_hint__" : String) = id0
  wp_delta
  rw [show splitId id0 = some ("list_reverseiterator", "__length_hint__") from by subst hid; decide +kernel]
  subst hid
  refine wpAny_bind (wpAny_isInstance (b := true) hT (by rw [isSubtype_type]; kernel_rfl) ?_)
  refine wpAny_pure ?_
  rw [if_neg (by decide)]
  have e0 : ((items.size : Nat) : Int) - 1 - ((0 : Nat) : Int) = (items.size : Int) - 1 := by omega
  refine wpAny_pure ⟨plainId_quiet F.plain_extend_loop _, codeAny_extend_loopS W hn _ hSf _ items.size 0 _ _ _ rfl (Nat.zero_le _) ⟨Nat.zero_le _, by rw [e0]; exact hit1, hl1⟩ hS1 (ItemsOf.nil _) fun s' acc' c' hm hS' hacc => ?_⟩
  rw [Moved.eq_with hm]
  refine hR s'.heap s'.toks acc' c' (fun b o hb hb2 e => hm.heap b o (fun hmem => ?_) (oth b o hb e)) hS' hacc
  rcases List.mem_cons.mp hmem with e' | hmem
  · exact hb e'
  · exact hb2 (List.mem_singleton.mp hmem)
theorem call_list_rev {Q : Value → Shared → Prop} {it l : Addr} {items : Array Value} (hh : A.handled = none) (hit : s.heap.IsRevIter it l ((items.size : Int) - 1)) (hl : s.heap.IsList l items) (hne : l ≠ it) (hn : items.size ≤ sizeLine)
    (hQ : ∀ h' tk acc' c', (∀ b o, b ≠ it → s.heap.get? b = some o → h'.get? b = some o) →
      h'.get? s.heap.objs.size = some { cls := .type "list", dict := none, data := .seq acc' c', slots := #[] } → ItemsOf (fun i v => items[items.size - 1 - i]? = some v) acc' items.size → Q (.ref s.heap.objs.size) { s with heap := h', toks := tk }) :
    wpAny (model prog w) A (call (.type "list") [.ref it]) Q E s := by
  refine callType_codes (Q₁ := fun obj s₁ => obj = .ref s.heap.objs.size ∧ s₁ = { s with heap := s.heap.push { cls := .type "list", data := .seq #[] } }) F.called_list (F.typeCall_list_1 _) F.entry_list_init
    (code_list_new _ ⟨rfl, rfl⟩) fun obj s₁ h₁ => ?_
  obtain ⟨rfl, rfl⟩ := h₁
  have hS : (s.heap.push { cls := .type "list", data := .seq #[] }).get? s.heap.objs.size = some { cls := .type "list", data := .seq #[] } := Heap.get?_push_size _ rfl
  obtain ⟨oi, hoi, _⟩ := id hit
  obtain ⟨ol, hol, _⟩ := id hl
  have hSi : s.heap.objs.size ≠ it := Nat.ne_of_gt (Heap.lt_size hoi)
  have hSl : s.heap.objs.size ≠ l := Nat.ne_of_gt (Heap.lt_size hol)
  refine ⟨⟨_, hS, rfl⟩, F.args_list_init_2 _ _, init_list_rev (A := A.in1) hh (hit.at fun o e => Heap.get?_push_of_some _ e) (hl.push _) hne hn _ hS hSi hSl fun h' tk acc' c' hk hS' hacc => ?_⟩
  exact ⟨rfl, hQ h' tk acc' c' (fun b o hb e => hk b o (Nat.ne_of_lt (Heap.lt_size e)) hb (Heap.get?_push_of_some _ e)) hS' hacc⟩
end
/-- list(reversed(x)), x a list: a new list -/
def tListRev (K : PySem.W.Frag) (te : TE) : TE := fun σ H Q => te σ H fun v H1 => ∃ (a : Addr) (xs : List V), v = .ref a ∧ SqL K H1 a xs ∧ ∀ q, H1 q = none → Q (.ref q) (upd H1 q (.lst xs.reverse))
theorem pe_listRev {X : Cx} {e : Expr} {te : TE} {p p2 pos pos2 : Pos} (hc : X.calm = true) (hg : Gl X "list") (hm : X.mg "list" = none) (hg2 : Gl X "reversed") (hm2 : X.mg "reversed" = none) (he : PE X e te)
    (hs : starEach [e] X.env = (false, eval e X.env) :: starEach [] X.env := by rfl)
    (hs2 : starEach [.Call (.Name "reversed" p2) [e] [] pos2] X.env = (false, eval (.Call (.Name "reversed" p2) [e] [] pos2) X.env) :: starEach [] X.env := by rfl) :
    PE X (.Call (.Name "list" p) [.Call (.Name "reversed" p2) [e] [] pos2] [] pos) (tListRev X.K te) := by
  refine ⟨fun pins s σ H Q I h => ?_⟩
  refine Call_ (ld_blt I hg hm boot_list (PyProof.Rows.callWith_type1 (args_cons (Call_ (ld_blt I hg2 hm2 PyProof.Rows.boot_reversed (PyProof.Rows.callWith_type1 (args_cons (thn (he.run pins s σ H _ I h) fun u s1 ⟨v, H1, I1, r1, q1⟩ => args_nil ?_) hs) hs rfl))) hs2) hs2 rfl))
  obtain ⟨a, xs, ev, hq, q⟩ := q1
  subst ev
  obtain rfl : u = Value.ref a := r1
  obtain ⟨its, rv, p', hz⟩ := I1.list hq
  refine call_reversed_list p'.isList (args_nil ?_)
  have k0 : ∀ b o, s1.heap.get? b = some o → (s1.heap.push (revObj a ((its.toArray.size : Int) - 1))).get? b = some o := fun b o e => Heap.get?_push_of_some _ e
  have I2 : Inv X pins σ H1 { s1 with heap := s1.heap.push (revObj a ((its.toArray.size : Int) - 1)) } := I1.kept (t' := s1.toks) k0
  obtain ⟨f0, f1, f2, f3, f4, f5⟩ := I1.fpOk (H' := H1) (b := s1.heap.objs.size) (Nat.le_refl _) (I1.hok.fresh (Nat.le_refl _))
  have hl := p'.isList
  obtain ⟨ol, hol, _⟩ := id hl
  have hne : a ≠ s1.heap.objs.size := Nat.ne_of_lt (Heap.lt_size hol)
  have hn : its.toArray.size ≤ sizeLine := by rw [List.size_toArray, ← rv.length]; exact hz
  refine call_list_rev (s := { s1 with heap := s1.heap.push (revObj a ((its.toArray.size : Int) - 1)) }) (I1.ok.hd hc) ⟨_, Heap.get?_push_size _ rfl, rfl, rfl⟩ (hl.push _) hne hn fun h' tk acc c' hk hnew hi => ?_
  have sz : (s1.heap.push (revObj a ((its.toArray.size : Int) - 1))).objs.size = s1.heap.objs.size + 1 := Array.size_push _
  rw [show ({ s1 with heap := s1.heap.push (revObj a ((its.toArray.size : Int) - 1)) } : Shared).heap.objs.size = s1.heap.objs.size + 1 from sz] at hnew ⊢
  have kp : ∀ b o, s1.heap.get? b = some o → h'.get? b = some o := fun b o e => hk b o (Nat.ne_of_lt (Heap.lt_size e)) (k0 b o e)
  refine ⟨.ref (s1.heap.objs.size + 1), upd H1 (s1.heap.objs.size + 1) (.lst xs.reverse), I1.laid (t' := tk) kp (Nat.le_succ _) (show ObjOk X.prog X.w _ _ _ (.lst xs.reverse) from ⟨by rw [List.length_reverse]; exact hz, acc.toList, c', vals_rev rv hi, ?_⟩), rfl, q _ (I1.hok.fresh (Nat.le_succ _))⟩
  rw [Array.toArray_toList]
  exact hnew
end RT
namespace DL
open PySem PySem.Spec L2
open PyProof.Rows hiding St
/-- list(reversed(a list)) -/
def bListRev : List D → DH → Res D
  | [.rol ds], h => .ok (.ref h.length) (h ++ [.lst ds.reverse])
  | [.ref n], h => match h[n]? with
    | some (.lst ds) => .ok (.ref h.length) (h ++ [.lst ds.reverse])
    | _ => .bad
  | _, _ => .bad
def dListRev (f : FE) : FE := fun σ h => (f σ h).bind fun x h1 => bListRev [x] h1
@[simp] theorem dListRev_ap {f : FE} {σ : DE} {h : DH} : dListRev f σ h = (f σ h).bind fun x h1 => bListRev [x] h1 := (rfl)
theorem lrev_at {h : DH} {n : Nat} : bListRev [.ref n] h = (match h[n]? with
    | some (.lst ds) => .ok (.ref h.length) (h ++ [.lst ds.reverse])
    | _ => .bad) := (rfl)
section
variable {X : Cx} {W : WX}
theorem de_listRev {e : Expr} {f : FE} {p p2 pos pos2 : Pos} (hc : X.calm = true) (hm : X.mg "list" = none) (hm2 : X.mg "reversed" = none) (he : PE X e (rE X.K X.mg W f)) (hg : Gl X "list" := by rfl) (hg2 : Gl X "reversed" := by rfl)
    (hs : starEach [e] X.env = (false, eval e X.env) :: starEach [] X.env := by rfl)
    (hs2 : starEach [.Call (.Name "reversed" p2) [e] [] pos2] X.env = (false, eval (.Call (.Name "reversed" p2) [e] [] pos2) X.env) :: starEach [] X.env := by rfl) :
    PE X (.Call (.Name "list" p) [.Call (.Name "reversed" p2) [e] [] pos2] [] pos) (rE X.K X.mg W (dListRev f)) := by
  refine PE.weak (RT.pe_listRev hc hg hm hg2 hm2 he hs hs2) fun τ H Q h => ?_
  obtain ⟨σ, dh, ρ, w, s, p⟩ := h
  refine ⟨σ, dh, ρ, w, s, ?_⟩
  refine Pst.mono (Pst.bind (R := Rep X.K) p) ?_
  rintro v H1 ⟨x, h1, ρ1, g1, w1, rx, p1⟩
  unfold bListRev at p1
  cases rx with
  | rol t r => exact ⟨_, _, rfl, t.sq, new_lst w1 r.reverse p1⟩
  | ref ha =>
    simp only at p1
    split at p1
    · rename_i ds hk
      obtain ⟨xs, hx, r⟩ := cell_lst w1 hk ha
      exact ⟨_, _, rfl, SqL.of hx, new_lst w1 r.reverse p1⟩
    · exact p1.elim
  | _ => exact p1.elim
end
end DL

/-! The data layer: what the laws' own helpers reckon: cells, digits, sameness. -/
namespace DL
open PySem PySem.Spec L2
open PyProof.Rows hiding St
/-! ### reckoning -/
def mixed (c k : Int) : Int :=
  let n := (c + 7919 * k + 1) * 48271 % 2147483647
  let n := n * (n / 1009 + 69621) % 2147483647
  n * (n / 2003 + 40692) % 2147483399
def digBig : Int → List Int → List Int
  | _, [] => []
  | c, s :: r => c % s :: digBig (c / s) r
def digSmall (c : Int) : Nat → List Int → List Int
  | _, [] => []
  | k, s :: r => mixed c k / 16 % s :: digSmall c (k + 1) r
def digits (c : Int) (sizes : List Int) : List Int := if 10 ^ 18 ≤ c then digBig c sizes else digSmall c 0 sizes
def okSize (s : Int) : Prop := 0 < s ∧ s.natAbs.log2 < 9000
theorem digBig_len : ∀ (l : List Int) (c : Int), (digBig c l).length = l.length
  | [], _ => rfl
  | _ :: r, c => congrArg (· + 1) (digBig_len r _)
theorem digSmall_len (c : Int) : ∀ (l : List Int) (k : Nat), (digSmall c k l).length = l.length
  | [], _ => rfl
  | _ :: r, k => congrArg (· + 1) (digSmall_len c r _)
theorem digits_len (c : Int) (l : List Int) : (digits c l).length = l.length := by
  unfold digits
  split
  · exact digBig_len _ _
  · exact digSmall_len _ _ _
theorem mod_of {x s : Int} (h : 0 < s) : 0 ≤ x % s ∧ x % s < s := ⟨Int.emod_nonneg _ (by omega), Int.emod_lt_of_pos _ h⟩
/-- each digit below its size -/
theorem digBig_get : ∀ (l : List Int) (c : Int) (i : Nat) (s : Int), l[i]? = some s → 0 < s → ∃ d, (digBig c l)[i]? = some d ∧ 0 ≤ d ∧ d < s
  | [], _, _, _, h, _ => by simp at h
  | s :: r, c, 0, t, h, p => by
    simp at h
    subst h
    exact ⟨_, rfl, mod_of p⟩
  | s :: r, c, i + 1, t, h, p => digBig_get r _ i t (by simpa using h) p
theorem digSmall_get (c : Int) : ∀ (l : List Int) (k i : Nat) (s : Int), l[i]? = some s → 0 < s → ∃ d, (digSmall c k l)[i]? = some d ∧ 0 ≤ d ∧ d < s
  | [], _, _, _, h, _ => by simp at h
  | s :: r, k, 0, t, h, p => by
    simp at h
    subst h
    exact ⟨_, rfl, mod_of p⟩
  | s :: r, k, i + 1, t, h, p => digSmall_get c r _ i t (by simpa using h) p
theorem digits_get {c : Int} {l : List Int} {i : Nat} {s : Int} (h : l[i]? = some s) (p : 0 < s) : ∃ d, (digits c l)[i]? = some d ∧ 0 ≤ d ∧ d < s := by
  unfold digits
  split
  · exact digBig_get l c i s h p
  · exact digSmall_get c l 0 i s h p
/-- the greedy digits, by the loop -/
theorem loop_big {keep : DH → Prop} {b : FS} {h : DH} {n : D} {x4 : Option D} (hk : ∀ a, keep (h ++ [.lst a]))
    (hb : ∀ (c s : Int) (row : List D) , okSize s → row.length < 1000 → b [some (.int c), some n, some (.ref h.length), some (.int s), x4] (h ++ [.lst row]) = .nx [some (.int (c / s)), some n, some (.ref h.length), some (.int s), x4] (h ++ [.lst (row ++ [.int (c % s)])])) :
    ∀ (l : List Int) (c : Int) (row : List D) (x3 : Option D), (∀ s ∈ l, okSize s) → row.length + l.length < 1000 →
      ∃ σ', forL keep (gN 3) b (l.map D.int) [some (.int c), some n, some (.ref h.length), x3, x4] (h ++ [.lst row]) = .nx σ' (h ++ [.lst (row ++ (digBig c l).map D.int)]) ∧ getS σ' 2 = some (.ref h.length)
  | [], c, row, x3, _, _ => ⟨[some (.int c), some n, some (.ref h.length), x3, x4], by rw [List.map_nil, forL_nil (hk _)]; simp [digBig], rfl⟩
  | s :: l, c, row, x3, hs, hl => by
    rw [List.length_cons] at hl
    obtain ⟨σ', e1, e2⟩ := loop_big hk hb l (c / s) (row ++ [.int (c % s)]) (some (.int s)) (fun t ht => hs t (List.mem_cons_of_mem _ ht)) (by rw [List.length_append, List.length_singleton]; omega)
    refine ⟨σ', ?_, e2⟩
    rw [List.map_cons, forL_cons (hk _) rfl]
    simp only [List.set_cons_succ, List.set_cons_zero]
    rw [hb c s row (hs s (List.mem_cons_self ..)) (by omega), RS.turn_nx, e1, digBig]
    simp
theorem loop_small {keep : DH → Prop} {b : FS} {h : DH} {c : Int} {n : D} {x3 : Option D} {sizes : List Int} (hk : ∀ a, keep (h ++ [.lst a]))
    (hb : ∀ (k : Nat) (s : Int) (row : List D), sizes[k]? = some s → row.length < 1000 → b [some (.int c), some n, some (.ref h.length), x3, some (.int (k : Int))] (h ++ [.lst row]) = .nx [some (.int c), some n, some (.ref h.length), x3, some (.int (k : Int))] (h ++ [.lst (row ++ [.int (mixed c k / 16 % s)])])) :
    ∀ (l : List Int) (k : Nat) (row : List D) (x4 : Option D), sizes.drop k = l → row.length + l.length < 1000 →
      ∃ σ', forL keep (gN 4) b ((List.range' k l.length).map fun (i : Nat) => D.int ((i : Nat) : Int)) [some (.int c), some n, some (.ref h.length), x3, x4] (h ++ [.lst row]) = .nx σ' (h ++ [.lst (row ++ (digSmall c k l).map D.int)]) ∧ getS σ' 2 = some (.ref h.length)
  | [], k, row, x4, _, _ => ⟨[some (.int c), some n, some (.ref h.length), x3, x4], by rw [List.length_nil, List.range'_zero, List.map_nil, forL_nil (hk _)]; simp [digSmall], rfl⟩
  | s :: l, k, row, x4, hs, hl => by
    rw [List.length_cons] at hl
    have h1 : sizes[k]? = some s := by
      have := congrArg (·[0]?) hs
      simpa using this
    have h2 : sizes.drop (k + 1) = l := by
      rw [← List.tail_drop, hs]
      rfl
    obtain ⟨σ', e1, e2⟩ := loop_small hk hb l (k + 1) (row ++ [.int (mixed c k / 16 % s)]) (some (.int (k : Int))) h2 (by rw [List.length_append, List.length_singleton]; omega)
    refine ⟨σ', ?_, e2⟩
    rw [List.length_cons, List.range'_succ, List.map_cons, forL_cons (hk _) rfl]
    simp only [List.set_cons_succ, List.set_cons_zero]
    rw [hb k s row h1 (by omega), RS.turn_nx, e1, digSmall]
    simp
/-- a cell of the script, or a drawn number -/
def cellNo (ns : List Int) (k : Nat) : Int := match ns[k]? with
  | some c => c
  | none => ((ns[0]?.getD 0) + 7919 * (k : Int)) * 48271 % 2147483647
/-- the same data, to a depth -/
def SameN (h : DH) : Nat → D → D → Prop
  | 0, _, _ => False
  | n + 1, x, y => (x = y ∧ flatD y = true) ∨
    (∃ ds es, x = .tup ds ∧ y = .tup es ∧ ds.length = es.length ∧ es.length < 1000 ∧ ∀ (i : Nat) (d e : D), ds[i]? = some d → es[i]? = some e → SameN h n d e) ∨
    (∃ k m ds es, x = .ref k ∧ y = .ref m ∧ h[k]? = some (.lst ds) ∧ h[m]? = some (.lst es) ∧ ds.length = es.length ∧ es.length < 1000 ∧ ∀ (i : Nat) (d e : D), ds[i]? = some d → es[i]? = some e → SameN h n d e)
theorem ext_at {h h' : DH} {n : Nat} {c : Cell} (x : ∃ g, h' = h ++ g) (e : h[n]? = some c) : h'[n]? = some c := by
  obtain ⟨g, rfl⟩ := x
  exact at_old e
theorem opq {α : Type} {r : Res α} {d : α} {h : DH} (e : ∃ g, r = .ok d (h ++ g)) : ∃ h', r = .ok d h' ∧ ∃ g, h' = h ++ g := by
  obtain ⟨g, e⟩ := e
  exact ⟨_, e, g, rfl⟩
theorem put_at {h : DH} {n j : Nat} {p : List D} {v : D} (e : h[n]? = some (.lst p)) (hj : j < p.length) : sPut (.ref n) (.int (j : Int)) v h = .ok .non (h.set n (.lst (p.set j v))) := by
  have q : L2.ixN p.length (j : Int) = some j := by
    unfold L2.ixN
    rw [if_pos (by omega), if_pos (by omega), Int.toNat_natCast]
  simp only [sPut, e, q]
theorem ext_trans {h h1 h2 : DH} (a : ∃ g, h1 = h ++ g) (b : ∃ g, h2 = h1 ++ g) : ∃ g, h2 = h ++ g := by
  obtain ⟨g, rfl⟩ := a
  obtain ⟨g', rfl⟩ := b
  exact ⟨g ++ g', List.append_assoc ..⟩
theorem cut_to {ds : List D} (k : Nat) : DL.cutD ds none (some (k : Int)) = ds.take k := by
  unfold DL.cutD
  rw [HT.sIx_none, HT.sIx_nat, List.drop_zero, Nat.sub_zero]
  rcases Nat.le_total k ds.length with l | l
  · rw [Nat.min_eq_left l]
  · rw [Nat.min_eq_right l, List.take_length, List.take_of_length_le l]
theorem cut_from {ds : List D} (k : Nat) : DL.cutD ds (some (k : Int)) none = ds.drop k := by
  unfold DL.cutD
  rw [HT.sIx_none, HT.sIx_nat]
  rcases Nat.le_total k ds.length with l | l
  · rw [Nat.min_eq_left l, List.take_of_length_le (by rw [List.length_drop]; omega)]
  · rw [Nat.min_eq_right l, Nat.sub_self, List.take_zero, List.drop_eq_nil_of_le l]
theorem cut_mid {ds : List D} (j k : Nat) (h : k ≤ ds.length) : DL.cutD ds (some (j : Int)) (some (k : Int)) = (ds.take k).drop j := by
  unfold DL.cutD
  rw [HT.sIx_nat, HT.sIx_nat, Nat.min_eq_left h, List.drop_take]
  rcases Nat.le_total j ds.length with l | l
  · rw [Nat.min_eq_left l]
  · rw [Nat.min_eq_right l, List.drop_eq_nil_of_le l, List.drop_eq_nil_of_le (Nat.le_refl _), List.take_nil, List.take_nil]
theorem cut_nfrom {ds : List D} (k : Nat) (hk : 0 < k) : DL.cutD ds (some (-(k : Int))) none = ds.drop (ds.length - k) := by
  unfold DL.cutD
  have e : HT.sIx ds.length 0 (some (-(k : Int))) = ds.length - k := by
    show (if -(k : Int) < 0 then (-(k : Int) + (ds.length : Int)).toNat else _) = _
    rw [if_pos (by omega)]
    omega
  rw [HT.sIx_none, e, List.take_of_length_le (by rw [List.length_drop]; omega)]
theorem sIx_neg (n d k : Nat) (hk : 0 < k) : HT.sIx n d (some (-(k : Int))) = n - k := by
  show (if -(k : Int) < 0 then (-(k : Int) + (n : Int)).toNat else _) = _
  rw [if_pos (by omega)]
  omega
theorem cut_nto {ds : List D} (k : Nat) (hk : 0 < k) : DL.cutD ds none (some (-(k : Int))) = ds.take (ds.length - k) := by
  unfold DL.cutD
  rw [HT.sIx_none, sIx_neg _ _ _ hk, List.drop_zero, Nat.sub_zero]
theorem cut_nmid {ds : List D} (j k : Nat) (hk : 0 < k) (h : j + k ≤ ds.length) : DL.cutD ds (some (j : Int)) (some (-(k : Int))) = (ds.take (ds.length - k)).drop j := by
  unfold DL.cutD
  rw [HT.sIx_nat, sIx_neg _ _ _ hk, Nat.min_eq_left (by omega), List.drop_take]
theorem oIAdd_lst' {h : DH} {m n : Nat} {p q : List D} (e1 : h[m]? = some (.lst p)) (e2 : h[n]? = some (.lst q)) (hl : p.length + q.length ≤ 16777216) : oAdd (.ref m) (.ref n) h = .ok (.ref h.length) (h ++ [.lst (p ++ q)]) := oAdd_lst e1 e2 hl
/-- a loop over data whose items change the environment alone -/
theorem for_fold {α : Type} {keep : DH → Prop} {gg : DG} {b : FS} {h : DH} {E : α → DE} (st : α → D → α) (hk : keep h) : ∀ (ds : List D) (a : α),
    (∀ a d, d ∈ ds → ∃ σ1, gg d (E a) = some σ1 ∧ (b σ1 h = .nx (E (st a d)) h ∨ b σ1 h = .ct (E (st a d)) h)) →
    forL keep gg b ds (E a) h = .nx (E (ds.foldl st a)) h
  | [], a, _ => by rw [forL_nil hk]; rfl
  | d :: ds, a, hs => by
    obtain ⟨σ1, e1, e2⟩ := hs a d (List.mem_cons_self ..)
    rw [forL_cons hk e1]
    rcases e2 with e2 | e2
    · rw [e2, RS.turn_nx]
      exact for_fold st hk ds _ fun a d hd => hs a d (List.mem_cons_of_mem _ hd)
    · rw [e2, RS.turn_ct]
      exact for_fold st hk ds _ fun a d hd => hs a d (List.mem_cons_of_mem _ hd)
theorem fin_of {m : Nat} {d : Int} (h0 : 0 ≤ d) (h1 : d < m) : ∃ k : Fin m, d = ((k.val : Nat) : Int) := ⟨⟨d.toNat, by omega⟩, by simp only; omega⟩
/-- each item of the first list fits that of the second -/
inductive Below : List Int → List Int → Prop
  | nil : Below [] []
  | cons {d s : Int} {ds ss : List Int} : 0 ≤ d ∧ d < s → Below ds ss → Below (d :: ds) (s :: ss)
theorem digBig_below : ∀ (l : List Int) (c : Int), (∀ s ∈ l, 0 < s) → Below (digBig c l) l
  | [], _, _ => .nil
  | s :: r, c, h => .cons (mod_of (h s (List.mem_cons_self ..))) (digBig_below r _ fun t ht => h t (List.mem_cons_of_mem _ ht))
theorem digSmall_below (c : Int) : ∀ (l : List Int) (k : Nat), (∀ s ∈ l, 0 < s) → Below (digSmall c k l) l
  | [], _, _ => .nil
  | s :: r, k, h => .cons (mod_of (h s (List.mem_cons_self ..))) (digSmall_below c r _ fun t ht => h t (List.mem_cons_of_mem _ ht))
theorem digits_below (c : Int) (l : List Int) (h : ∀ s ∈ l, 0 < s) : Below (digits c l) l := by
  unfold digits
  split
  · exact digBig_below l c h
  · exact digSmall_below c l 0 h
theorem Below.get : ∀ {ds ss : List Int} {i : Nat} {d : Int}, Below ds ss → ds[i]? = some d → ∃ s, ss[i]? = some s ∧ 0 ≤ d ∧ d < s
  | _, _, _, _, .nil, e => by simp at e
  | _, _, 0, _, .cons h _, e => by
    simp at e
    subst e
    exact ⟨_, rfl, h⟩
  | _, _, i + 1, d, .cons _ r, e => by
    obtain ⟨s, h1, h2⟩ := Below.get (i := i) (d := d) r (by simpa using e)
    exact ⟨s, by simpa using h1, h2⟩
theorem rep_flat (m : Nat) (x : Int) : (List.replicate m [D.int x]).flatten = (List.replicate m x).map D.int := by
  induction m with
  | zero => rfl
  | succ m ih => rw [List.replicate_succ, List.flatten_cons, ih, List.replicate_succ]; rfl
theorem mem_rng {lo : Int} {n : Nat} {d : D} (h : d ∈ rngD lo n) : ∃ i : Nat, i < n ∧ d = .int (lo + (i : Int)) := by
  unfold rngD at h
  obtain ⟨i, hi, rfl⟩ := List.mem_map.mp h
  exact ⟨i, List.mem_range.mp hi, rfl⟩
theorem rngS_nat {n : Nat} {h : DH} (hn : n ≤ 1000000000) : rngS [.int (n : Int)] h = .ok ⟨rngD 0 n, fun _ => True⟩ h := by
  have := rngS_one (h := h) (x := (n : Int)) ⟨by omega, by omega⟩
  rw [Int.toNat_natCast] at this
  exact this
theorem atI_6 {a b c e f g i : D} {l : List D} : L2.atI (a :: b :: c :: e :: f :: g :: i :: l) 6 = some i := L2.atI_nat (j := 6) rfl
theorem atI_7 {a b c e f g i j : D} {l : List D} : L2.atI (a :: b :: c :: e :: f :: g :: i :: j :: l) 7 = some j := L2.atI_nat (j := 7) rfl
end DL

/-! The data layer: sum, max, min, count, index. -/
namespace DL
open PySem PySem.Spec L2
open PyProof.Rows hiding St
def intsD : List D → Option (List Int)
  | [] => some []
  | .int x :: r => (intsD r).map (x :: ·)
  | _ => none
theorem intsD_map : ∀ l : List Int, intsD (l.map D.int) = some l
  | [] => rfl
  | a :: l => by rw [List.map_cons, intsD, intsD_map l]; rfl
section
variable {K : PySem.W.Frag} {mg : Str → Option Value} {ρ : List Addr} {H : Hp}
theorem intsD_rep : ∀ {ds : List D} {vs : List V} {xs : List Int}, RepL K ρ H ds vs → intsD ds = some xs → vs = xs.map V.int
  | _, _, _, .nil, e => by
    cases e
    rfl
  | d :: ds, v :: vs, xs, .cons h r, e => by
    cases h <;> simp only [intsD] at e <;> first | cases e | skip
    obtain ⟨ys, e1, rfl⟩ := Option.map_eq_some_iff.mp e
    rw [intsD_rep r e1]
    rfl
/-- a list's items, of the two kinds of list -/
def seqD (h : DH) : D → Option (List D)
  | .rol ds => some ds
  | .ref n => match h[n]? with
    | some (.lst ds) => some ds
    | _ => none
  | _ => none
theorem seqD_rep {dh : DH} {x : D} {v : V} {ds : List D} (w : Wd K mg ρ dh H) (r : Rep K ρ H x v) (e : seqD dh x = some ds) : ∃ a xs, v = .ref a ∧ SqL K H a xs ∧ RepL K ρ H ds xs := by
  unfold seqD at e
  cases r with
  | rol t r =>
    cases e
    exact ⟨_, _, rfl, t.sq, r⟩
  | ref ha =>
    simp only at e
    split at e
    · rename_i es hk
      cases e
      obtain ⟨xs, hx, r⟩ := cell_lst w hk ha
      exact ⟨_, _, rfl, SqL.of hx, r⟩
    · cases e
  | _ => cases e
def iseqD (h : DH) (x : D) : Option (List Int) := (seqD h x).bind intsD
theorem iseqD_rep {dh : DH} {x : D} {v : V} {ns : List Int} (w : Wd K mg ρ dh H) (r : Rep K ρ H x v) (e : iseqD dh x = some ns) : ∃ a, v = .ref a ∧ SqL K H a (ns.map V.int) := by
  unfold iseqD at e
  obtain ⟨ds, e1, e2⟩ := Option.bind_eq_some_iff.mp e
  obtain ⟨a, xs, rfl, s, r⟩ := seqD_rep w r e1
  rw [intsD_rep r e2] at s
  exact ⟨a, rfl, s⟩
theorem iseqD_lst {h : DH} {n : Nat} {l : List Int} (e : h[n]? = some (.lst (l.map D.int))) : iseqD h (.ref n) = some l := by
  simp only [iseqD, seqD, e, Option.bind_some, intsD_map]
def maxL : List Int → Int
  | [] => 0
  | a :: r => r.foldl max a
def minL : List Int → Int
  | [] => 0
  | a :: r => r.foldl min a
theorem foldl_max : ∀ (r : List Int) (a : Int), a ≤ r.foldl max a ∧ (∀ y ∈ r, y ≤ r.foldl max a) ∧ (r.foldl max a = a ∨ r.foldl max a ∈ r)
  | [], a => ⟨Int.le_refl _, fun y h => (by cases h), .inl rfl⟩
  | b :: r, a => by
    obtain ⟨h1, h2, h3⟩ := foldl_max r (max a b)
    rw [List.foldl_cons]
    refine ⟨by omega, fun y hy => ?_, ?_⟩
    · rcases List.mem_cons.mp hy with rfl | hy
      · omega
      · exact h2 y hy
    · rcases h3 with h3 | h3
      · rcases Int.le_total a b with l | l
        · exact .inr (by rw [h3, Int.max_eq_right l]; exact List.mem_cons_self ..)
        · exact .inl (by rw [h3, Int.max_eq_left l])
      · exact .inr (List.mem_cons_of_mem _ h3)
theorem foldl_min : ∀ (r : List Int) (a : Int), r.foldl min a ≤ a ∧ (∀ y ∈ r, r.foldl min a ≤ y) ∧ (r.foldl min a = a ∨ r.foldl min a ∈ r)
  | [], a => ⟨Int.le_refl _, fun y h => (by cases h), .inl rfl⟩
  | b :: r, a => by
    obtain ⟨h1, h2, h3⟩ := foldl_min r (min a b)
    rw [List.foldl_cons]
    refine ⟨by omega, fun y hy => ?_, ?_⟩
    · rcases List.mem_cons.mp hy with rfl | hy
      · omega
      · exact h2 y hy
    · rcases h3 with h3 | h3
      · rcases Int.le_total a b with l | l
        · exact .inl (by rw [h3, Int.min_eq_left l])
        · exact .inr (by rw [h3, Int.min_eq_right l]; exact List.mem_cons_self ..)
      · exact .inr (List.mem_cons_of_mem _ h3)
theorem maxL_le {l : List Int} : ∀ y ∈ l, y ≤ maxL l := fun y hy => by
  cases l with
  | nil => cases hy
  | cons a r =>
    obtain ⟨h1, h2, _⟩ := foldl_max r a
    rcases List.mem_cons.mp hy with rfl | hy
    · exact h1
    · exact h2 y hy
theorem maxL_mem {l : List Int} (h : l ≠ []) : maxL l ∈ l := by
  cases l with
  | nil => exact absurd rfl h
  | cons a r =>
    obtain ⟨_, _, h3⟩ := foldl_max r a
    rcases h3 with h3 | h3
    · exact List.mem_cons.mpr (.inl h3)
    · exact List.mem_cons_of_mem _ h3
theorem minL_le {l : List Int} : ∀ y ∈ l, minL l ≤ y := fun y hy => by
  cases l with
  | nil => cases hy
  | cons a r =>
    obtain ⟨h1, h2, _⟩ := foldl_min r a
    rcases List.mem_cons.mp hy with rfl | hy
    · exact h1
    · exact h2 y hy
theorem minL_mem {l : List Int} (h : l ≠ []) : minL l ∈ l := by
  cases l with
  | nil => exact absurd rfl h
  | cons a r =>
    obtain ⟨_, _, h3⟩ := foldl_min r a
    rcases h3 with h3 | h3
    · exact List.mem_cons.mpr (.inl h3)
    · exact List.mem_cons_of_mem _ h3
/-- sum(list), max and min of a list or of two -/
def bSum : List D → DH → Res D
  | [x], h => match iseqD h x with
    | some ns => .ok (.int ns.sum) h
    | none => .bad
  | _, _ => .bad
def bMax : List D → DH → Res D
  | [x], h => match iseqD h x with
    | some ns => if 0 < ns.length then .ok (.int (maxL ns)) h else .bad
    | none => .bad
  | [.int i, .int j], h => .ok (.int (if j > i then j else i)) h
  | _, _ => .bad
def bMin : List D → DH → Res D
  | [x], h => match iseqD h x with
    | some ns => if 0 < ns.length then .ok (.int (minL ns)) h else .bad
    | none => .bad
  | [.int i, .int j], h => .ok (.int (if j < i then j else i)) h
  | _, _ => .bad
def rMaxX (K : PySem.W.Frag) : List V → Hp → VK → Prop := fun vs H Q => rMax K vs H Q ∨ ∃ i j, vs = [.int i, .int j] ∧ Q (.int (if j > i then j else i)) H
def rMinX (K : PySem.W.Frag) : List V → Hp → VK → Prop := fun vs H Q => rMin K vs H Q ∨ ∃ i j, vs = [.int i, .int j] ∧ Q (.int (if j < i then j else i)) H
theorem call_maxX {X : Cx} (hc : X.calm = true) : CallR X (.builtin "max") (rMaxX X.K) := CallR.or (cr_max hc) (call_max2 hc)
theorem call_minX {X : Cx} (hc : X.calm = true) : CallR X (.builtin "min") (rMinX X.K) := CallR.or (cr_min hc) (call_min2 hc)
theorem cs_sum : CallS K mg (rSum K) bSum := by
  intro ρ dh H ds vs Q W τ w rx p
  unfold bSum at p
  split at p
  · obtain ⟨v, rfl, r⟩ := rx.inv1
    split at p
    · rename_i ns e
      obtain ⟨a, rfl, s⟩ := iseqD_rep w r e
      exact ⟨a, ns, rfl, s, same_val w (.int _) p⟩
    · exact p.elim
  · exact p.elim
theorem cs_max : CallS K mg (rMaxX K) bMax := by
  intro ρ dh H ds vs Q W τ w rx p
  unfold bMax at p
  split at p
  · obtain ⟨v, rfl, r⟩ := rx.inv1
    split at p
    · rename_i ns e
      obtain ⟨a, rfl, s⟩ := iseqD_rep w r e
      split at p
      · rename_i hl
        refine .inl ⟨a, ns, rfl, s, hl, fun m hm hy => ?_⟩
        have h1 := hy _ (maxL_mem (List.length_pos_iff.mp hl))
        have h2 := maxL_le m hm
        have : m = maxL ns := by omega
        rw [this]
        exact same_val w (.int _) p
      · exact p.elim
    · exact p.elim
  · cases rx with
    | cons a r =>
      cases a
      cases r with
      | cons b r =>
        cases b
        cases r
        exact .inr ⟨_, _, rfl, same_val w (.int _) p⟩
  · exact p.elim
theorem cs_min : CallS K mg (rMinX K) bMin := by
  intro ρ dh H ds vs Q W τ w rx p
  unfold bMin at p
  split at p
  · obtain ⟨v, rfl, r⟩ := rx.inv1
    split at p
    · rename_i ns e
      obtain ⟨a, rfl, s⟩ := iseqD_rep w r e
      split at p
      · rename_i hl
        refine .inl ⟨a, ns, rfl, s, hl, fun m hm hy => ?_⟩
        have h1 := hy _ (minL_mem (List.length_pos_iff.mp hl))
        have h2 := minL_le m hm
        have : m = minL ns := by omega
        rw [this]
        exact same_val w (.int _) p
      · exact p.elim
    · exact p.elim
  · cases rx with
    | cons a r =>
      cases a
      cases r with
      | cons b r =>
        cases b
        cases r
        exact .inr ⟨_, _, rfl, same_val w (.int _) p⟩
  · exact p.elim
/-- xs.count(n) of ints -/
def mCount : D → List D → DH → Res D
  | x, [.int k], h => match iseqD h x with
    | some ns => .ok (.int (ns.count k : Nat)) h
    | none => .bad
  | _, _, _ => .bad
theorem ms_count : MetS K mg (rCntI K) mCount := by
  intro ρ dh H x v ds vs Q W τ w rx rs p
  unfold mCount at p
  split at p
  · obtain ⟨u, rfl, ry⟩ := rs.inv1
    cases ry
    split at p
    · rename_i ns e
      obtain ⟨a, rfl, s⟩ := iseqD_rep w rx e
      exact ⟨a, ns, _, rfl, rfl, s, same_val w (.int _) p⟩
    · exact p.elim
  · exact p.elim
/-- xs.index(x), flat items -/
def mIndex : D → List D → DH → Res D
  | x, [y], h => match seqD h x with
    | some ds => if flatD y = true ∧ ds.all flatD = true then (match ds.findIdx? (fun d => eqF d y) with
      | some j => .ok (.int (j : Nat)) h
      | none => .bad) else .bad
    | none => .bad
  | _, _, _ => .bad
theorem ms_index : MetS K mg (rIndex K) mIndex := by
  intro ρ dh H x v ds vs Q W τ w rx rs p
  unfold mIndex at p
  split at p
  · obtain ⟨u, rfl, ry⟩ := rs.inv1
    split at p
    · rename_i es e
      obtain ⟨a, xs, rfl, s, r⟩ := seqD_rep w rx e
      split at p
      · rename_i hf
        split at p
        · rename_i j ej
          obtain ⟨hl, h1, h2⟩ := List.findIdx?_eq_some_iff_getElem.mp ej
          obtain ⟨z, hz, rz⟩ := r.get (List.getElem?_eq_getElem hl)
          have fz : flatD es[j] = true := List.all_eq_true.mp hf.2 _ (List.getElem_mem hl)
          refine ⟨a, xs, u, j, z, rfl, rfl, s, flat_of ry hf.1, flats_of r hf.2, hz, by rw [eqF_rep rz ry fz hf.1]; exact h1, fun m z' hm hz' => ?_, same_val w (.int _) p⟩
          obtain ⟨d, hd, rd⟩ := r.get' hz'
          obtain ⟨hml, rfl⟩ := List.getElem?_eq_some_iff.mp hd
          rw [eqF_rep rd ry (List.all_eq_true.mp hf.2 _ (List.getElem_mem hml)) hf.1]
          have := h2 m hm
          simpa using this
        · exact p.elim
      · exact p.elim
    · exact p.elim
  · exact p.elim
end
section
variable {h : DH} {n : Nat} {l : List Int} {i j : Int}
theorem sum_at (e : h[n]? = some (.lst (l.map D.int))) : bSum [.ref n] h = .ok (.int l.sum) h := by simp only [bSum, iseqD_lst e]
theorem max_at (e : h[n]? = some (.lst (l.map D.int))) (hl : 0 < l.length) : bMax [.ref n] h = .ok (.int (maxL l)) h := by simp only [bMax, iseqD_lst e, if_pos hl]
theorem min_at (e : h[n]? = some (.lst (l.map D.int))) (hl : 0 < l.length) : bMin [.ref n] h = .ok (.int (minL l)) h := by simp only [bMin, iseqD_lst e, if_pos hl]
@[simp] theorem max_two : bMax [.int i, .int j] h = .ok (.int (if j > i then j else i)) h := (rfl)
@[simp] theorem min_two : bMin [.int i, .int j] h = .ok (.int (if j < i then j else i)) h := (rfl)
theorem count_at (e : h[n]? = some (.lst (l.map D.int))) : mCount (.ref n) [.int i] h = .ok (.int (l.count i : Nat)) h := by simp only [mCount, iseqD_lst e]
theorem index_at {ds : List D} {y : D} {k : Nat} (e : h[n]? = some (.lst ds)) (f : flatD y = true ∧ ds.all flatD = true) (q : ds.findIdx? (fun d => eqF d y) = some k) : mIndex (.ref n) [y] h = .ok (.int (k : Nat)) h := by
  simp only [mIndex, seqD, e, if_pos f, q]
end
/-! ### == of lists and tuples of ints -/
theorem toPs_ints (h : DH) (n : Nat) : ∀ l : List Int, toPs h (n + 1) (l.map D.int) = some (l.map PyData.int)
  | [] => by rw [List.map_nil, toPs]; rfl
  | a :: l => by rw [List.map_cons, toPs, toPs_ints h n l, toP]; rfl
theorem eqv_ints : ∀ l m : List Int, PyData.eqvAll (l.map PyData.int) (m.map PyData.int) = decide (l = m)
  | [], [] => by simp [PyData.eqvAll]
  | [], b :: m => by simp [PyData.eqvAll]
  | a :: l, [] => by simp [PyData.eqvAll]
  | a :: l, b :: m => by
    rw [List.map_cons, List.map_cons, PyData.eqvAll, PyData.eqv, eqv_ints l m]
    by_cases e : a = b <;> by_cases f : l = m <;> simp [e, f]
theorem canLay_ints : ∀ l : List Int, PyData.canLayAll0 (l.map PyData.int) = true
  | [] => by simp [PyData.canLayAll0]
  | a :: l => by rw [List.map_cons, PyData.canLayAll0, PyData.canLay0, canLay_ints l]; rfl
theorem depth_ints : ∀ l : List Int, PyData.depthAll (l.map PyData.int) ≤ 1
  | [] => by simp [PyData.depthAll]
  | a :: l => by
    have := depth_ints l
    rw [List.map_cons, PyData.depthAll, PyData.depth]
    omega
theorem shaped_lst (l : List Int) : SeqAt.shaped (.list (l.map PyData.int)) = true := by
  have := depth_ints l
  simp [SeqAt.shaped, PyData.canLay0, canLay_ints, PyData.depth]
  omega
theorem shaped_tup (l : List Int) : SeqAt.shaped (.tuple (l.map PyData.int)) = true := by
  have := depth_ints l
  simp [SeqAt.shaped, PyData.canLay0, canLay_ints, PyData.depth]
  omega
section
variable {h : DH} {n m : Nat} {l l2 : List Int}
theorem peq_lst (e1 : h[n]? = some (.lst (l.map D.int))) (e2 : h[m]? = some (.lst (l2.map D.int))) : peq h (.ref n) (.ref m) = some (decide (l = l2)) := by
  have t : ∀ (k : Nat) (l : List Int), h[k]? = some (.lst (l.map D.int)) → toP h 66 (.ref k) = some (.list (l.map PyData.int)) := fun k l e => by
    rw [toP, e]
    simp only
    rw [toPs_ints h 64 l]
    rfl
  unfold peq
  rw [t n l e1, t m l2 e2]
  simp only
  rw [if_pos ⟨shaped_lst l, shaped_lst l2⟩, PyData.eqv, eqv_ints]
theorem peq_tup : peq h (.tup (l.map D.int)) (.tup (l2.map D.int)) = some (decide (l = l2)) := by
  have t : ∀ (l : List Int), toP h 66 (.tup (l.map D.int)) = some (.tuple (l.map PyData.int)) := fun l => by
    rw [toP, toPs_ints h 64 l]
    rfl
  unfold peq
  rw [t l, t l2]
  simp only
  rw [if_pos ⟨shaped_tup l, shaped_tup l2⟩, PyData.eqv, eqv_ints]
theorem oEq_lsts (e1 : h[n]? = some (.lst (l.map D.int))) (e2 : h[m]? = some (.lst (l2.map D.int))) : oEq (.ref n) (.ref m) h = .ok (.bl (decide (l = l2))) h := by
  unfold oEq
  rw [show scalD (.ref n) (.ref m) = none from rfl, peq_lst e1 e2]
theorem oNe_lsts (e1 : h[n]? = some (.lst (l.map D.int))) (e2 : h[m]? = some (.lst (l2.map D.int))) : oNe (.ref n) (.ref m) h = .ok (.bl (!decide (l = l2))) h := by
  unfold oNe
  rw [show scalD (.ref n) (.ref m) = none from rfl, peq_lst e1 e2]
theorem oEq_tups : oEq (.tup (l.map D.int)) (.tup (l2.map D.int)) h = .ok (.bl (decide (l = l2))) h := by
  unfold oEq
  rw [show scalD (.tup (l.map D.int)) (.tup (l2.map D.int)) = none from rfl, peq_tup]
theorem oNe_tups : oNe (.tup (l.map D.int)) (.tup (l2.map D.int)) h = .ok (.bl (!decide (l = l2))) h := by
  unfold oNe
  rw [show scalD (.tup (l.map D.int)) (.tup (l2.map D.int)) = none from rfl, peq_tup]
end
@[simp] theorem oNe_in {x : Int} {h : DH} : oNe (.int x) .non h = .ok (.bl true) h := (rfl)
@[simp] theorem oNe_ni {x : Int} {h : DH} : oNe .non (.int x) h = .ok (.bl true) h := (rfl)
@[simp] theorem oNe_sn {x : Str} {h : DH} : oNe (.str x) .non h = .ok (.bl true) h := (rfl)
@[simp] theorem oNe_ns {x : Str} {h : DH} : oNe .non (.str x) h = .ok (.bl true) h := (rfl)
@[simp] theorem oNe_bl {x y : Bool} {h : DH} : oNe (.bl x) (.bl y) h = .ok (.bl (!decide (x = y))) h := (rfl)
/-- a comprehension by what holds before each item -/
theorem lc_inv {keep : DH → Prop} {gg : DG} {e : FE} {σ : DE} {n : Nat} {ds : List D} (I : Nat → List D → DH → Prop) (hk : ∀ i acc h, I i acc h → keep h) (hl : ds.length < 16777216)
    (hs : ∀ i d acc h, ds[i]? = some d → I i acc h → ∃ σ1 y h2, gg d σ = some σ1 ∧ e σ1 h = .ok y h2 ∧ h2[n]? = some (.lst acc) ∧ I (i + 1) (acc ++ [y]) (h2.set n (.lst (acc ++ [y])))) :
    ∀ h0, I 0 [] h0 → ∃ acc h', lcL keep gg dYes e σ n ds h0 = .ok (.ref n) h' ∧ acc.length = ds.length ∧ I ds.length acc h' := by
  suffices key : ∀ (r : List D) (i : Nat) (acc : List D) (h : DH), ds.drop i = r → i ≤ ds.length → acc.length = i → I i acc h → ∃ acc h', lcL keep gg dYes e σ n r h = .ok (.ref n) h' ∧ acc.length = ds.length ∧ I ds.length acc h' from
    fun h0 hi => key ds 0 [] h0 rfl (Nat.zero_le _) rfl hi
  intro r
  induction r with
  | nil =>
    intro i acc h e1 le la hi
    have : i = ds.length := by
      have := congrArg List.length e1
      rw [List.length_drop, List.length_nil] at this
      omega
    subst this
    exact ⟨acc, h, by rw [lcL_nil (hk _ _ _ hi)], la, hi⟩
  | cons d r ih =>
    intro i acc h e1 le la hi
    have hd : ds[i]? = some d := by
      have := congrArg (·[0]?) e1
      simpa using this
    have hr : ds.drop (i + 1) = r := by
      rw [← List.tail_drop, e1]
      rfl
    have lt : i < ds.length := (List.getElem?_eq_some_iff.mp hd).1
    obtain ⟨σ1, y, h2, g1, g2, g3, g4⟩ := hs i d acc h hd hi
    obtain ⟨acc', h', f1, f2, f3⟩ := ih (i + 1) (acc ++ [y]) _ hr lt (by rw [List.length_append, la]; rfl) g4
    exact ⟨acc', h', by rw [lcL_turn (hk _ _ _ hi) g1 g2 g3 (by omega), f1], f2, f3⟩
end DL


namespace law_k48
open PySem PySem.Spec L2 DL
open PyProof.Rows hiding St
def topS (i : Nat) : Stmt := PySem.Challenge.pw_spentblocks_k48_whole_lone_life_by_first.main.body.getD i (.Pass ⟨0, 0, 0, 0⟩)
abbrev s_is_integer : Stmt := topS 5
theorem sc_is_integer : FnScope ["thing"] ["thing"] (defScope s_is_integer) := ⟨rfl, rfl, rfl, by decide +kernel, rfl, by decide +kernel, by decide +kernel⟩
abbrev s_in_range : Stmt := topS 6
theorem sc_in_range : FnScope ["thing", "low", "high"] ["thing", "low", "high"] (defScope s_in_range) := ⟨rfl, rfl, rfl, by decide +kernel, rfl, by decide +kernel, by decide +kernel⟩
abbrev s_lone_life : Stmt := topS 10
theorem sc_lone_life : FnScope ["rooms", "at", "room", "total", "greatest", "rest"] ["rooms", "at"] (defScope s_lone_life) := ⟨rfl, rfl, rfl, by decide +kernel, rfl, by decide +kernel, by decide +kernel⟩
abbrev s__law_digit : Stmt := topS 12
theorem sc__law_digit : FnScope ["_law_pool", "_law_many", "_law_rest", "_law_cells", "_law_at", "_law_cell", "_law_mixed"] ["_law_pool", "_law_many"] (defScope s__law_digit) := ⟨rfl, rfl, rfl, by decide +kernel, rfl, by decide +kernel, by decide +kernel⟩
abbrev s__law_is_life : Stmt := topS 13
theorem sc__law_is_life : FnScope ["_law_found", "_law_due"] ["_law_found", "_law_due"] (defScope s__law_is_life) := ⟨rfl, rfl, rfl, by decide +kernel, rfl, by decide +kernel, by decide +kernel⟩
abbrev s__law_room : Stmt := topS 14
theorem sc__law_room : FnScope ["_law_pool", "_law_kind"] ["_law_pool", "_law_kind"] (defScope s__law_room) := ⟨rfl, rfl, rfl, by decide +kernel, rfl, by decide +kernel, by decide +kernel⟩
abbrev s__law_great : Stmt := topS 15
theorem sc__law_great : FnScope ["_law_pool", "_law_many", "_law_kind", "_law_even", "_law_more", "_law_place", "_law_rooms", "_law_k", "_law_others"] ["_law_pool"] (defScope s__law_great) := ⟨rfl, rfl, rfl, by decide +kernel, rfl, by decide +kernel, by decide +kernel⟩
abbrev s__law_longest : Stmt := topS 16
theorem sc__law_longest : FnScope ["_law_rooms", "_law_at", "_law_room_here", "_law_last", "_law_length", "_law_step", "_law_best", "_law_b"] ["_law_rooms", "_law_at"] (defScope s__law_longest) := ⟨rfl, rfl, rfl, by decide +kernel, rfl, by decide +kernel, by decide +kernel⟩
abbrev s__law_best_first : Stmt := topS 17
theorem sc__law_best_first : FnScope ["_law_rooms", "_law_at", "_law_best", "_law_b", "_law_less", "_law_span"] ["_law_rooms", "_law_at"] (defScope s__law_best_first) := ⟨rfl, rfl, rfl, by decide +kernel, rfl, by decide +kernel, by decide +kernel⟩
abbrev s_law : Stmt := topS 18
theorem sc_law : FnScope ["_law_script", "_law_pool", "_law_small", "_law_where", "_law_many", "_law_rooms", "_law_at", "_law_kept", "_law_found", "_law_rest", "_law_due", "_law_k"] ["_law_script"] (defScope s_law) := ⟨rfl, rfl, rfl, by decide +kernel, rfl, by decide +kernel, by decide +kernel⟩
/-- what the top has left: built-ins that are built-ins still, constants -/
structure Txt (K : PySem.W.Frag) (mg : Str → Option Value) : Prop where
  n_bool : mg "bool" = none
  n_int : mg "int" = none
  n_isinstance : mg "isinstance" = none
  n_len : mg "len" = none
  n_list : mg "list" = none
  n_max : mg "max" = none
  n_min : mg "min" = none
  n_range : mg "range" = none
  n_sum : mg "sum" = none
  c_MOST_ROOM : ∃ t, mg "MOST_ROOM" = some (.int 1000000000 t)
  c_MOST_ROOMS : ∃ t, mg "MOST_ROOMS" = some (.int 100 t)
structure All (K : PySem.W.Frag) (mg : Str → Option Value) : Prop where
  T : Txt K mg
  e_is_integer : Here K mg "is_integer" s_is_integer ["thing"]
  e_in_range : Here K mg "in_range" s_in_range ["thing", "low", "high"]
  e_lone_life : Here K mg "lone_life" s_lone_life ["rooms", "at"]
  e__law_digit : Here K mg "_law_digit" s__law_digit ["_law_pool", "_law_many"]
  e__law_is_life : Here K mg "_law_is_life" s__law_is_life ["_law_found", "_law_due"]
  e__law_room : Here K mg "_law_room" s__law_room ["_law_pool", "_law_kind"]
  e__law_great : Here K mg "_law_great" s__law_great ["_law_pool"]
  e__law_longest : Here K mg "_law_longest" s__law_longest ["_law_rooms", "_law_at"]
  e__law_best_first : Here K mg "_law_best_first" s__law_best_first ["_law_rooms", "_law_at"]
  e_law : Here K mg "law" s_law ["_law_script"]
/-! ### the plain law: rooms, the last one, the life -/
def NonNeg (l : List Int) : Prop := ∀ y ∈ l, 0 ≤ y
theorem sum_set : ∀ (l : List Int) (b : Nat) (v x : Int), l[b]? = some v → (l.set b x).sum = l.sum - v + x
  | [], _, _, _, h => by simp at h
  | a :: l, 0, v, x, h => by
    simp at h
    subst h
    simp
    omega
  | a :: l, b + 1, v, x, h => by
    have := sum_set l b v x (by simpa using h)
    simp
    omega
theorem sum_nonneg : ∀ (l : List Int), NonNeg l → 0 ≤ l.sum
  | [], _ => by simp
  | a :: l, h => by
    have h1 := sum_nonneg l fun y hy => h y (List.mem_cons_of_mem _ hy)
    have h2 := h a (List.mem_cons_self ..)
    simp
    omega
theorem one_le : ∀ (l : List Int) (i : Nat) (x : Int), NonNeg l → l[i]? = some x → x ≤ l.sum
  | [], _, _, _, h => by simp at h
  | a :: l, 0, x, n, h => by
    have h1 := sum_nonneg l fun y hy => n y (List.mem_cons_of_mem _ hy)
    simp at h
    simp
    omega
  | a :: l, i + 1, x, n, h => by
    have h1 := one_le l i x (fun y hy => n y (List.mem_cons_of_mem _ hy)) (by simpa using h)
    have h2 := n a (List.mem_cons_self ..)
    simp
    omega
theorem two_le : ∀ (l : List Int) (i j : Nat) (x y : Int), NonNeg l → i ≠ j → l[i]? = some x → l[j]? = some y → x + y ≤ l.sum
  | [], _, _, _, _, _, _, h, _ => by simp at h
  | a :: l, 0, 0, _, _, _, h, _, _ => absurd rfl h
  | a :: l, 0, j + 1, x, y, n, _, h, g => by
    have h1 := one_le l j y (fun y hy => n y (List.mem_cons_of_mem _ hy)) (by simpa using g)
    simp at h
    simp
    omega
  | a :: l, i + 1, 0, x, y, n, _, h, g => by
    have h1 := one_le l i x (fun y hy => n y (List.mem_cons_of_mem _ hy)) (by simpa using h)
    simp at g
    simp
    omega
  | a :: l, i + 1, j + 1, x, y, n, d, h, g => by
    have h1 := two_le l i j x y (fun y hy => n y (List.mem_cons_of_mem _ hy)) (by omega) (by simpa using h) (by simpa using g)
    have h2 := n a (List.mem_cons_self ..)
    simp
    omega
theorem max_is {l : List Int} {M : Int} (h : M ∈ l) (g : ∀ y ∈ l, y ≤ M) : maxL l = M := by
  have h1 := maxL_le M h
  have h2 := g _ (maxL_mem fun e => by rw [e] at h; cases h)
  omega
/-- the one greatest room -/
def U (l : List Int) (j : Nat) : Prop := l[j]? = some (maxL l) ∧ ∀ c, c ≠ j → l[c]? ≠ some (maxL l)
open Classical in
noncomputable def life (l : List Int) (at_ : Option Nat) : Int := if ∃ j, at_ = some j ∧ U l j then min l.sum (2 * (l.sum - maxL l)) else min l.sum (2 * (l.sum - maxL l) + 1)
theorem life_u {l : List Int} {o : Option Nat} (h : ∃ j, o = some j ∧ U l j) : life l o = min l.sum (2 * (l.sum - maxL l)) := if_pos h
theorem life_n {l : List Int} {o : Option Nat} (h : ¬ ∃ j, o = some j ∧ U l j) : life l o = min l.sum (2 * (l.sum - maxL l) + 1) := if_neg h
theorem at_le {l : List Int} {c : Nat} {x : Int} (h : l[c]? = some x) : x ≤ maxL l := maxL_le x (List.mem_of_getElem? h)
theorem max_at_some {l : List Int} (h : l ≠ []) : ∃ c : Nat, l[c]? = some (maxL l) := by
  obtain ⟨i, hi, e⟩ := List.getElem_of_mem (maxL_mem h)
  exact ⟨i, by rw [List.getElem?_eq_getElem hi, e]⟩
/-- one taken from room b: the new greatest and whether b is the one greatest -/
theorem less_cases {l : List Int} {b : Nat} {v : Int} (n : NonNeg l) (hb : l[b]? = some v) (hv : 0 < v) :
    ((∃ c, c ≠ b ∧ l[c]? = some (maxL l)) ∧ life (l.set b (v - 1)) (some b) = min (l.sum - 1) (2 * (l.sum - maxL l) - 1)) ∨
    ((∀ c, c ≠ b → l[c]? ≠ some (maxL l)) ∧ v = maxL l ∧ ((life (l.set b (v - 1)) (some b) = min (l.sum - 1) (2 * (l.sum - maxL l) + 1) ∧ maxL l - 1 ≤ l.sum - maxL l) ∨ life (l.set b (v - 1)) (some b) = min (l.sum - 1) (2 * (l.sum - maxL l)))) := by
  have bl := (List.getElem?_eq_some_iff.mp hb).1
  have ss := sum_set l b v (v - 1) hb
  have vm := at_le hb
  have sb : (l.set b (v - 1))[b]? = some (v - 1) := List.getElem?_set_self bl
  have so : ∀ c, c ≠ b → (l.set b (v - 1))[c]? = l[c]? := fun c h => List.getElem?_set_ne (Ne.symm h)
  have mem : ∀ y ∈ l.set b (v - 1), y = v - 1 ∨ ∃ c, c ≠ b ∧ l[c]? = some y := fun y hy => by
    obtain ⟨i, hi, e⟩ := List.getElem_of_mem hy
    have e2 : (l.set b (v - 1))[i]? = some y := by rw [List.getElem?_eq_getElem hi, e]
    by_cases ib : i = b
    · subst ib
      rw [sb] at e2
      injection e2 with e2
      exact .inl e2.symm
    · rw [so i ib] at e2
      exact .inr ⟨i, ib, e2⟩
  by_cases h : ∃ c, c ≠ b ∧ l[c]? = some (maxL l)
  · refine .inl ⟨h, ?_⟩
    obtain ⟨c, cb, hc⟩ := h
    have m' : maxL (l.set b (v - 1)) = maxL l := max_is (List.mem_of_getElem? ((so c cb).trans hc)) fun y hy => by
      rcases mem y hy with rfl | ⟨d, _, hd⟩
      · omega
      · exact at_le hd
    rw [life_n (fun ⟨j, ej, hj⟩ => by
      cases ej
      have := hj.1
      rw [sb, m'] at this
      injection this with this
      omega), m', ss]
    congr 1 <;> omega
  · have h' : ∀ c, c ≠ b → l[c]? ≠ some (maxL l) := fun c cb e => h ⟨c, cb, e⟩
    obtain ⟨c0, hc0⟩ := max_at_some (l := l) (fun e => by rw [e] at hb; simp at hb)
    have c0b : c0 = b := Classical.byContradiction fun e => h' c0 e hc0
    subst c0b
    rw [hb] at hc0
    injection hc0 with vM
    refine .inr ⟨h', vM, ?_⟩
    have oth : ∀ c x, c ≠ c0 → l[c]? = some x → x ≤ maxL l - 1 := fun c x cb hx => by
      have h1 := at_le hx
      have h2 : x ≠ maxL l := fun e => h' c cb (by rw [hx, e])
      omega
    have m' : maxL (l.set c0 (v - 1)) = maxL l - 1 := max_is (by rw [← vM]; exact List.mem_of_getElem? sb) fun y hy => by
      rcases mem y hy with rfl | ⟨d, dn, hd⟩
      · omega
      · exact oth d y dn hd
    by_cases g : ∃ c, c ≠ c0 ∧ l[c]? = some (maxL l - 1)
    · obtain ⟨c, cb, hc⟩ := g
      have t := two_le l c0 c v (maxL l - 1) n (Ne.symm cb) hb hc
      refine .inl ⟨?_, by omega⟩
      rw [life_n (fun ⟨j, ej, hj⟩ => by
        cases ej
        exact hj.2 c cb (by rw [so c cb, m', hc])), m', ss]
      congr 1 <;> omega
    · refine .inr ?_
      rw [life_u ⟨c0, rfl, by rw [sb, m', vM], fun c cb e => g ⟨c, cb, by rw [← so c cb, e, m']⟩⟩, m', ss]
      congr 1 <;> omega
theorem life_step {l : List Int} {b : Nat} {v : Int} {o : Option Nat} (n : NonNeg l) (hb : l[b]? = some v) (hv : 0 < v) (ho : o ≠ some b) : 1 + life (l.set b (v - 1)) (some b) ≤ life l o := by
  rcases less_cases n hb hv with ⟨_, e⟩ | ⟨h, vM, e⟩
  · rw [e]
    by_cases u : ∃ j, o = some j ∧ U l j
    · rw [life_u u]
      omega
    · rw [life_n u]
      omega
  · have u : ¬ ∃ j, o = some j ∧ U l j := fun ⟨j, ej, hj⟩ => h j (fun e => ho (by rw [ej, e])) hj.1
    rw [life_n u]
    rcases e with ⟨e, m⟩ | e <;> rw [e] <;> omega
theorem life_best {l : List Int} {b : Nat} {v : Int} {o : Option Nat} (n : NonNeg l) (hb : l[b]? = some v) (hv : 0 < v) (ho : o ≠ some b) (g : ∀ c x, o ≠ some c → l[c]? = some x → x ≤ v) : life l o = 1 + life (l.set b (v - 1)) (some b) := by
  have vm := at_le hb
  rcases less_cases n hb hv with ⟨⟨c, cb, hc⟩, e⟩ | ⟨h, vM, e⟩
  · rw [e]
    by_cases u : ∃ j, o = some j ∧ U l j
    · rw [life_u u]
      omega
    · rw [life_n u]
      have key : v = maxL l := by
        by_cases oc : o = some c
        · have : ∃ c1, c1 ≠ c ∧ l[c1]? = some (maxL l) := Classical.byContradiction fun z => u ⟨c, oc, hc, fun d dn hd => z ⟨d, dn, hd⟩⟩
          obtain ⟨c1, c1n, h1⟩ := this
          have := g c1 _ (fun z => c1n (by rw [oc] at z; injection z with z; exact z.symm)) h1
          omega
        · have := g c _ oc hc
          omega
      have t := two_le l c b _ _ n cb hc hb
      omega
  · have u : ¬ ∃ j, o = some j ∧ U l j := fun ⟨j, ej, hj⟩ => h j (fun e => ho (by rw [ej, e])) hj.1
    rw [life_n u]
    rcases e with ⟨e, m⟩ | e <;> rw [e] <;> omega
theorem life_none {l : List Int} {o : Option Nat} (n : NonNeg l) (hne : l ≠ []) (g : ∀ c x, o ≠ some c → l[c]? = some x → x ≤ 0) : life l o = 0 := by
  obtain ⟨c0, hc0⟩ := max_at_some hne
  have m0 := n _ (List.mem_of_getElem? hc0)
  have s0 := sum_nonneg l n
  have zero : ∀ m : List Int, NonNeg m → (∀ (c : Nat) (x : Int), m[c]? = some x → x ≤ 0) → m.sum = 0 := fun m nm hm => by
    induction m with
    | nil => rfl
    | cons a m ih =>
      have h1 := ih (fun y hy => nm y (List.mem_cons_of_mem _ hy)) fun c x hc => hm (c + 1) x (by simpa using hc)
      have h2 := hm 0 a rfl
      have h3 := nm a (List.mem_cons_self ..)
      simp
      omega
  by_cases oc : o = some c0
  · subst oc
    have c0l := (List.getElem?_eq_some_iff.mp hc0).1
    have z := zero (l.set c0 0) (fun y hy => by
      rcases List.mem_or_eq_of_mem_set hy with h | h
      · exact n y h
      · omega) fun c x hc => by
      by_cases cc : c = c0
      · subst cc
        rw [List.getElem?_set_self c0l] at hc
        injection hc with hc
        omega
      · rw [List.getElem?_set_ne (Ne.symm cc)] at hc
        exact g c x (fun z => cc (by injection z with z; exact z.symm)) hc
    rw [sum_set l c0 _ 0 hc0] at z
    by_cases mz : maxL l = 0
    · by_cases u : ∃ j, some c0 = some j ∧ U l j
      · rw [life_u u]; omega
      · rw [life_n u]; omega
    · rw [life_u ⟨c0, rfl, hc0, fun c cn hc => by
        have := g c _ (fun z => cn (by injection z with z; exact z.symm)) hc
        omega⟩]
      omega
  · have h1 := g c0 _ oc hc0
    have z := zero l n fun c x hc => by
      have := at_le hc
      omega
    by_cases u : ∃ j, o = some j ∧ U l j
    · rw [life_u u]; omega
    · rw [life_n u]; omega
theorem life_range {l : List Int} {o : Option Nat} (n : NonNeg l) (hne : l ≠ []) : 0 ≤ life l o ∧ life l o ≤ l.sum ∧ life l o ≤ 2 * (l.sum - maxL l) + 1 := by
  obtain ⟨c0, hc0⟩ := max_at_some hne
  have s0 := sum_nonneg l n
  have s1 := one_le l c0 _ n hc0
  by_cases u : ∃ j, o = some j ∧ U l j
  · rw [life_u u]; omega
  · rw [life_n u]; omega
theorem count_one : ∀ (l : List Int) (j : Nat) (M : Int), l[j]? = some M → (l.count M = 1 ↔ ∀ c, c ≠ j → l[c]? ≠ some M)
  | [], _, _, h => by simp at h
  | a :: l, 0, M, h => by
    simp at h
    subst h
    rw [List.count_cons_self]
    constructor
    · intro e c cn hc
      cases c with
      | zero => exact cn rfl
      | succ c =>
        have := List.count_pos_iff.mpr (List.mem_of_getElem? (show l[c]? = some a by simpa using hc))
        omega
    · intro g
      have : a ∉ l := fun hm => by
        obtain ⟨i, hi, e⟩ := List.getElem_of_mem hm
        exact g (i + 1) (by omega) (by simp [List.getElem?_eq_getElem hi, e])
      have := List.count_eq_zero.mpr this
      omega
  | a :: l, j + 1, M, h => by
    have h' : l[j]? = some M := by simpa using h
    have ih := count_one l j M h'
    have pos := List.count_pos_iff.mpr (List.mem_of_getElem? h')
    by_cases e : a = M
    · subst e
      rw [List.count_cons_self]
      constructor
      · intro z
        omega
      · intro g
        exact absurd rfl (g 0 (by omega))
    · rw [List.count_cons_of_ne e, ih]
      constructor
      · intro g c cn
        cases c with
        | zero =>
          simp
          exact e
        | succ c =>
          have := g c (by omega)
          simpa using this
      · intro g c cn
        have := g (c + 1) (by omega)
        simpa using this
def atD : Option Nat → D
  | none => .non
  | some j => .int (j : Int)
theorem atD_n : atD none = .non := rfl
theorem atD_s (j : Nat) : atD (some j) = .int (j : Int) := rfl
def Rooms (l : List Int) : Prop := (∀ y ∈ l, 0 ≤ y ∧ y ≤ 1000000000) ∧ 1 ≤ l.length ∧ l.length ≤ 100
theorem Rooms.nn {l : List Int} (h : Rooms l) : NonNeg l := fun y hy => (h.1 y hy).1
theorem Rooms.ne {l : List Int} (h : Rooms l) : l ≠ [] := fun e => by
  have := h.2.1
  rw [e] at this
  simp at this
section
variable {P : Program} {w : World} {K : PySem.W.Frag} {mg : Str → Option Value} {base : Heap}
/-! ### is_integer -/
noncomputable def F_is_integer : Fn := dDef 1 1 (dRet (dAndV (dIs .int (dVar 0)) (dNotV (dIs .bl (dVar 0)))))
theorem ok_is_integer (T : Txt K mg)  {f : Addr} {fd : FuncData} (F : Fun K "is_integer" "is_integer" s_is_integer f fd) : FnOk P w K mg base (L2.CX P w) 1 f fd ["thing"] (spD K mg F_is_integer) := by
  refine fn_ok F sc_is_integer (fun cdv A outer s H E hr => ?_)
  have nd := sc_is_integer.nd
  have hp := passes_of (X := cxOf (L2.CX P w) P w K mg base ["thing"] "is_integer" (defScope s_is_integer) f cdv A outer s H E) (K := fun e s'' => L2.CX P w outer H s E e s'') rfl
  have tk := takes_of (X := cxOf (L2.CX P w) P w K mg base ["thing"] "is_integer" (defScope s_is_integer) f cdv A outer s H E) (E := E) rfl rfl rfl rfl
  exact (dss_one (ds_ret (de_and (de_is .int (by decide) T.n_isinstance T.n_int (de_var 0)) (de_one (de_not (de_is .bl (by decide) T.n_isinstance T.n_bool (de_var 0)))))))
theorem has_is_integer (A : All K mg) : Has P w K mg base 1 "is_integer" ["thing"] F_is_integer := has_of A.e_is_integer fun f fd F => ok_is_integer A.T  F
/-! ### in_range -/
noncomputable def F_in_range : Fn := dDef 3 3 (dRet (dAndV (dCall F_is_integer (dCons (dVar 0) dNil)) (dChain oLe oLe (dVar 1) (dVar 0) (dVar 2))))
theorem ok_in_range (T : Txt K mg) (h_is_integer : Has P w K mg base 1 "is_integer" ["thing"] F_is_integer) {f : Addr} {fd : FuncData} (F : Fun K "in_range" "in_range" s_in_range f fd) : FnOk P w K mg base (L2.CX P w) 2 f fd ["thing", "low", "high"] (spD K mg F_in_range) := by
  refine fn_ok F sc_in_range (fun cdv A outer s H E hr => ?_)
  have nd := sc_in_range.nd
  have hp := passes_of (X := cxOf (L2.CX P w) P w K mg base ["thing", "low", "high"] "in_range" (defScope s_in_range) f cdv A outer s H E) (K := fun e s'' => L2.CX P w outer H s E e s'') rfl
  have tk := takes_of (X := cxOf (L2.CX P w) P w K mg base ["thing", "low", "high"] "in_range" (defScope s_in_range) f cdv A outer s H E) (E := E) rfl rfl rfl rfl
  exact (dss_one (ds_ret (de_and (de_has h_is_integer hr (by decide) tk (da_cons (de_var 0) da_nil)) (de_one (de_chain op_le op_le os_ord os_ord (de_var 1) (de_var 0) (de_var 2))))))
theorem eq_in_range (x lo hi : Int) (h : DH) : F_in_range [.int x, .int lo, .int hi] h = .ok (.bl (decide (lo ≤ x) && decide (x ≤ hi))) h := by
  by_cases c : lo ≤ x
  · simp -implicitDefEqProofs [F_in_range, F_is_integer, c]
  · simp -implicitDefEqProofs [F_in_range, F_is_integer, c]

theorem has_in_range (A : All K mg) : Has P w K mg base 2 "in_range" ["thing", "low", "high"] F_in_range := has_of A.e_in_range fun f fd F => ok_in_range A.T (has_is_integer A) F
/-! ### lone_life -/
noncomputable def B_lone_life_1 : FS := (dIf (dNotT (dTru (dCall F_in_range (dCons (dVar 2) (dCons (dC (D.int 0)) (dCons (dC (D.int 1000000000)) dNil)))))) dNever dSkip)
noncomputable def F_lone_life : Fn := dDef 2 6 (dSeq (dIf (dOrT (dNotT (dTru (dIs .lst (dVar 0)))) (dNotT (dTest (dChain oLe oLe (dC (D.int 1)) (dCB bLen (dCons (dVar 0) dNil)) (dC (D.int 100)))))) dNever dSkip) (dSeq (dFor (dIter (dVar 0)) (gN 2) B_lone_life_1) (dSeq (dIf (dAndT (dTest (dBin oNotN (dVar 1) (dC D.non))) (dNotT (dTru (dCall F_in_range (dCons (dVar 1) (dCons (dC (D.int 0)) (dCons (dBin oSub (dCB bLen (dCons (dVar 0) dNil)) (dC (D.int 1))) dNil))))))) dNever dSkip) (dSeq (dSet 3 (dCB bSum (dCons (dVar 0) dNil))) (dSeq (dSet 4 (dCB bMax (dCons (dVar 0) dNil))) (dSeq (dSet 5 (dBin oSub (dVar 3) (dVar 4))) (dSeq (dIf (dAndT (dTest (dBin oNotN (dVar 1) (dC D.non))) (dAndT (dTest (dBin oEq (dBin oIx (dVar 0) (dVar 1)) (dVar 4))) (dTest (dBin oEq (dBM "list" mCount (dVar 0) (dCons (dVar 4) dNil)) (dC (D.int 1)))))) (dRet (dCB bMin (dCons (dVar 3) (dCons (dBin oMul (dC (D.int 2)) (dVar 5)) dNil)))) dSkip) (dRet (dCB bMin (dCons (dVar 3) (dCons (dBin oAdd (dBin oMul (dC (D.int 2)) (dVar 5)) (dC (D.int 1))) dNil)))))))))))
theorem ok_lone_life (T : Txt K mg) (h_in_range : Has P w K mg base 2 "in_range" ["thing", "low", "high"] F_in_range) {f : Addr} {fd : FuncData} (F : Fun K "lone_life" "lone_life" s_lone_life f fd) : FnOk P w K mg base (L2.CX P w) 3 f fd ["rooms", "at"] (spD K mg F_lone_life) := by
  refine fn_ok F sc_lone_life (fun cdv A outer s H E hr => ?_)
  have nd := sc_lone_life.nd
  have hp := passes_of (X := cxOf (L2.CX P w) P w K mg base ["rooms", "at", "room", "total", "greatest", "rest"] "lone_life" (defScope s_lone_life) f cdv A outer s H E) (K := fun e s'' => L2.CX P w outer H s E e s'') rfl
  have tk := takes_of (X := cxOf (L2.CX P w) P w K mg base ["rooms", "at", "room", "total", "greatest", "rest"] "lone_life" (defScope s_lone_life) f cdv A outer s H E) (E := E) rfl rfl rfl rfl
  exact (dss_cons (ds_if (PW.pt (dw_or (dt_not (dt_tru (de_is .lst (by decide) T.n_isinstance T.n_list (de_var 0)))) (dw_or1 (dt_not (dt_chain op_le op_le os_ord os_ord de_int (de_callB call_len cs_len T.n_len (da_cons (de_var 0) da_nil)) (de_glob (d := (D.int 100)) rfl T.c_MOST_ROOMS.choose_spec ⟨_, rfl⟩)))))) (dss_one ds_never) dss_nil) (dss_cons (ds_for hp rfl (di_any (de_var 0)) (dg_name 2 nd) (dss_one (ds_if (dt_not (dt_tru (de_has h_in_range hr (by decide) tk (da_cons (de_var 2) (da_cons de_int (da_cons (de_glob (d := (D.int 1000000000)) rfl T.c_MOST_ROOM.choose_spec ⟨_, rfl⟩) da_nil)))))) (dss_one ds_never) dss_nil))) (dss_cons (ds_if (PW.pt (dw_and (dt_cmp op_notX os_not (de_var 1) de_non) (dw_and1 (dt_not (dt_tru (de_has h_in_range hr (by decide) tk (da_cons (de_var 1) (da_cons de_int (da_cons (de_op op_sub os_sub (de_callB call_len cs_len T.n_len (da_cons (de_var 0) da_nil)) de_int) da_nil))))))))) (dss_one ds_never) dss_nil) (dss_cons (ds_set 3 nd (de_callB (cr_sum rfl) cs_sum T.n_sum (da_cons (de_var 0) da_nil))) (dss_cons (ds_set 4 nd (de_callB (call_maxX rfl) cs_max T.n_max (da_cons (de_var 0) da_nil))) (dss_cons (ds_set 5 nd (de_op op_sub os_sub (de_var 3) (de_var 4))) (dss_cons (ds_if (PW.pt (dw_and (dt_cmp op_notX os_not (de_var 1) de_non) (dw_and (dt_cmp (op_eqX hr.units) os_eq (de_ix (de_var 0) (de_var 1)) (de_var 4)) (dw_and1 (dt_cmp (op_eqX hr.units) os_eq (de_bm mt_lcount ms_count PySem.F.plainAttrs_list PySem.F.slot_list_count PySem.F.type_list_count (de_var 0) (da_cons (de_var 4) da_nil)) de_int))))) (dss_one (ds_ret (de_callB (call_minX rfl) cs_min T.n_min (da_cons (de_var 3) (da_cons (de_op op_mulX os_mul de_int (de_var 5)) da_nil))))) dss_nil) (dss_one (ds_ret (de_callB (call_minX rfl) cs_min T.n_min (da_cons (de_var 3) (da_cons (de_op op_addX os_add (de_op op_mulX os_mul de_int (de_var 5)) de_int) da_nil))))))))))))
theorem eq_lone_life {l : List Int} {o : Option Nat} {h : DH} {n : Nat} (hn : h[n]? = some (.lst (l.map D.int))) (hr : Rooms l) (ho : ∀ j, o = some j → j < l.length) :
    F_lone_life [.ref n, atD o] h = .ok (.int (life l o)) h := by
  have f := for_fold (α := Option D) (keep := fun h' => h'[n]? = some (.lst (l.map D.int))) (gg := gN 2) (b := B_lone_life_1) (h := h) (E := fun x => [some (.ref n), some (atD o), x, none, none, none]) (fun _ d => some d) hn (l.map D.int) none (fun a d hd => by
    obtain ⟨y, hy, rfl⟩ := List.mem_map.mp hd
    have := hr.1 y hy
    refine ⟨_, rfl, .inl ?_⟩
    simp -implicitDefEqProofs [B_lone_life_1, eq_in_range, this])
  have l1 : (1 : Int) ≤ l.length := by have := hr.2.1; omega
  have l2 : (l.length : Int) ≤ 100 := by have := hr.2.2; omega
  have mn : ∀ a b : Int, (if b < a then b else a) = min a b := fun a b => by omega
  generalize List.foldl (fun (_ : Option D) d => some d) none (l.map D.int) = x at f
  cases o with
  | none =>
    rw [life_n (fun ⟨j, e, _⟩ => by cases e)]
    simp only [atD] at f ⊢
    simp -implicitDefEqProofs [F_lone_life, tyD_lst hn, bLen_lst hn, l1, l2, iterS_ref hn, f, sum_at hn, max_at hn hr.2.1, oMul_l, mn]
  | some j =>
    have jl := ho j rfl
    have q : L2.atI (l.map D.int) (j : Int) = some (.int l[j]) := atI_n (by rw [List.getElem?_map, List.getElem?_eq_getElem jl]; rfl)
    have j1 : (0 : Int) ≤ j := by omega
    have j2 : (j : Int) ≤ (l.length : Int) - 1 := by omega
    by_cases e : l[j] = maxL l
    · have hj : l[j]? = some (maxL l) := by rw [List.getElem?_eq_getElem jl, e]
      have c1 := count_one l j (maxL l) hj
      by_cases c : l.count (maxL l) = 1
      · rw [life_u ⟨j, rfl, hj, c1.mp c⟩]
        simp only [atD] at f ⊢
        simp -implicitDefEqProofs [F_lone_life, tyD_lst hn, bLen_lst hn, l1, l2, iterS_ref hn, f, sum_at hn, max_at hn hr.2.1, oMul_l, mn, eq_in_range, j1, j2, ix_at, hn, q, e, rcv_at, count_at hn, c]
      · rw [life_n (fun ⟨k, ek, hk⟩ => by
          cases ek
          exact c (c1.mpr hk.2))]
        have c' : ¬ (l.count (maxL l) : Int) = 1 := by omega
        simp only [atD] at f ⊢
        simp -implicitDefEqProofs [F_lone_life, tyD_lst hn, bLen_lst hn, l1, l2, iterS_ref hn, f, sum_at hn, max_at hn hr.2.1, oMul_l, mn, eq_in_range, j1, j2, ix_at, hn, q, e, rcv_at, count_at hn, c, c']
    · rw [life_n (fun ⟨k, ek, hk⟩ => by
        cases ek
        have := hk.1
        rw [List.getElem?_eq_getElem jl] at this
        injection this with this
        exact e this)]
      simp only [atD] at f ⊢
      simp -implicitDefEqProofs [F_lone_life, tyD_lst hn, bLen_lst hn, l1, l2, iterS_ref hn, f, sum_at hn, max_at hn hr.2.1, oMul_l, mn, eq_in_range, j1, j2, ix_at, hn, q, e]
theorem has_lone_life (A : All K mg) : Has P w K mg base 3 "lone_life" ["rooms", "at"] F_lone_life := has_of A.e_lone_life fun f fd F => ok_lone_life A.T (has_in_range A) F
/-! ### _law_digit -/
noncomputable def F__law_digit : Fn := dDef 2 7 (dSeq (dIf (dTest (dBin oGt (dBin oIx (dVar 0) (dC (D.int 2))) (dC (D.int 0)))) (dSeq (dSet 2 (dBin oIx (dVar 0) (dC (D.int 2)))) (dSeq (dPut (dVar 0) (dC (D.int 2)) (dBin oDiv (dVar 2) (dVar 1))) (dRet (dBin oMod (dCB bInt (dCons (dVar 2) dNil)) (dVar 1))))) dSkip) (dSeq (dSet 3 (dBin oIx (dVar 0) (dC (D.int 0)))) (dSeq (dSet 4 (dBin oIx (dVar 0) (dC (D.int 1)))) (dSeq (dPut (dVar 0) (dC (D.int 1)) (dBin oAdd (dVar 4) (dC (D.int 1)))) (dSeq (dSet 5 (dBin oAdd (dBin oMul (dC (D.int 7)) (dVar 4)) (dC (D.int 2)))) (dSeq (dIf (dTest (dBin oLt (dVar 4) (dCB bLen (dCons (dVar 3) dNil)))) (dSet 5 (dBin oIx (dVar 3) (dVar 4))) (dIf (dTest (dBin oNe (dVar 3) (dLst dNil))) (dSet 5 (dBin oAdd (dBin oAdd (dBin oMul (dBin oMod (dCB bInt (dCons (dBin oIx (dVar 3) (dC (D.int 0))) dNil)) (dC (D.int 1000003))) (dC (D.int 13))) (dBin oMul (dC (D.int 7)) (dVar 4))) (dC (D.int 2)))) dSkip)) (dSeq (dIf (dTest (dBin oGe (dVar 5) (dBin oPow (dC (D.int 10)) (dC (D.int 18))))) (dSeq (dPut (dVar 0) (dC (D.int 2)) (dBin oDiv (dVar 5) (dVar 1))) (dRet (dBin oMod (dCB bInt (dCons (dVar 5) dNil)) (dVar 1)))) dSkip) (dSeq (dSet 6 (dBin oMod (dCB bInt (dCons (dBin oAdd (dBin oAdd (dBin oMul (dVar 5) (dC (D.int 48271))) (dBin oMul (dVar 4) (dC (D.int 7919)))) (dC (D.int 30103))) dNil)) (dC (D.int 2147483647)))) (dSeq (dSet 6 (dBin oMod (dCB bInt (dCons (dBin oMul (dVar 6) (dBin oAdd (dBin oDiv (dVar 6) (dC (D.int 1013))) (dC (D.int 69623)))) dNil)) (dC (D.int 2147483629)))) (dSeq (dSet 6 (dBin oMod (dCB bInt (dCons (dBin oMul (dVar 6) (dBin oAdd (dBin oDiv (dVar 6) (dC (D.int 2011))) (dC (D.int 40699)))) dNil)) (dC (D.int 2147483587)))) (dRet (dBin oMod (dCB bInt (dCons (dBin oDiv (dVar 6) (dC (D.int 32))) dNil)) (dVar 1)))))))))))))
theorem ok__law_digit (T : Txt K mg)  {f : Addr} {fd : FuncData} (F : Fun K "_law_digit" "_law_digit" s__law_digit f fd) : FnOk P w K mg base (L2.CX P w) 1 f fd ["_law_pool", "_law_many"] (spD K mg F__law_digit) := by
  refine fn_ok F sc__law_digit (fun cdv A outer s H E hr => ?_)
  have nd := sc__law_digit.nd
  have hp := passes_of (X := cxOf (L2.CX P w) P w K mg base ["_law_pool", "_law_many", "_law_rest", "_law_cells", "_law_at", "_law_cell", "_law_mixed"] "_law_digit" (defScope s__law_digit) f cdv A outer s H E) (K := fun e s'' => L2.CX P w outer H s E e s'') rfl
  have tk := takes_of (X := cxOf (L2.CX P w) P w K mg base ["_law_pool", "_law_many", "_law_rest", "_law_cells", "_law_at", "_law_cell", "_law_mixed"] "_law_digit" (defScope s__law_digit) f cdv A outer s H E) (E := E) rfl rfl rfl rfl
  exact (dss_cons (ds_if (dt_cmp op_gt os_ord (de_ix (de_var 0) de_int) de_int) (dss_cons (ds_set 2 nd (de_ix (de_var 0) de_int)) (dss_cons (ds_put (hu_of hr) (de_var 0) de_int (de_op op_fdivW os_div (de_var 2) (de_var 1))) (dss_one (ds_ret (de_op op_mod os_mod (de_callTy call_intX cs_int T.n_int (da_cons (de_var 2) da_nil)) (de_var 1)))))) dss_nil) (dss_cons (ds_set 3 nd (de_ix (de_var 0) de_int)) (dss_cons (ds_set 4 nd (de_ix (de_var 0) de_int)) (dss_cons (ds_put (hu_of hr) (de_var 0) de_int (de_op op_addX os_add (de_var 4) de_int)) (dss_cons (ds_set 5 nd (de_op op_addX os_add (de_op op_mulX os_mul de_int (de_var 4)) de_int)) (dss_cons (ds_if (dt_cmp op_lt os_ord (de_var 4) (de_callB call_len cs_len T.n_len (da_cons (de_var 3) da_nil))) (dss_one (ds_set 5 nd (de_ix (de_var 3) (de_var 4)))) (dss_one (ds_if (dt_cmp (op_neX hr.units) os_ne (de_var 3) (de_lst da_nil)) (dss_one (ds_set 5 nd (de_op op_addX os_add (de_op op_addX os_add (de_op op_mulX os_mul (de_op op_mod os_mod (de_callTy call_intX cs_int T.n_int (da_cons (de_ix (de_var 3) de_int) da_nil)) de_int) de_int) (de_op op_mulX os_mul de_int (de_var 4))) de_int))) dss_nil))) (dss_cons (ds_if (dt_cmp op_ge os_ord (de_var 5) (de_op op_pow os_pow de_int de_int)) (dss_cons (ds_put (hu_of hr) (de_var 0) de_int (de_op op_fdivW os_div (de_var 5) (de_var 1))) (dss_one (ds_ret (de_op op_mod os_mod (de_callTy call_intX cs_int T.n_int (da_cons (de_var 5) da_nil)) (de_var 1))))) dss_nil) (dss_cons (ds_set 6 nd (de_op op_mod os_mod (de_callTy call_intX cs_int T.n_int (da_cons (de_op op_addX os_add (de_op op_addX os_add (de_op op_mulX os_mul (de_var 5) de_int) (de_op op_mulX os_mul (de_var 4) de_int)) de_int) da_nil)) de_int)) (dss_cons (ds_set 6 nd (de_op op_mod os_mod (de_callTy call_intX cs_int T.n_int (da_cons (de_op op_mulX os_mul (de_var 6) (de_op op_addX os_add (de_op op_fdivW os_div (de_var 6) de_int) de_int)) da_nil)) de_int)) (dss_cons (ds_set 6 nd (de_op op_mod os_mod (de_callTy call_intX cs_int T.n_int (da_cons (de_op op_mulX os_mul (de_var 6) (de_op op_addX os_add (de_op op_fdivW os_div (de_var 6) de_int) de_int)) da_nil)) de_int)) (dss_one (ds_ret (de_op op_mod os_mod (de_callTy call_intX cs_int T.n_int (da_cons (de_op op_fdivW os_div (de_var 6) de_int) da_nil)) (de_var 1))))))))))))))
/-- the pool of digits -/
def Pool (c : Nat) (h : DH) (p : Nat) : Prop := ∃ (k : Nat) (rest : Int) (cs : List Int), c ≠ p ∧ h[p]? = some (.lst [.ref c, .int (k : Int), .int rest]) ∧ h[c]? = some (.lst (cs.map D.int))
def Keep (p : Nat) (h h' : DH) : Prop := h.length ≤ h'.length ∧ ∀ (n : Nat) (c : Cell), n ≠ p → h[n]? = some c → h'[n]? = some c
theorem Keep.trans {p : Nat} {h h1 h2 : DH} (a : Keep p h h1) (b : Keep p h1 h2) : Keep p h h2 := ⟨Nat.le_trans a.1 b.1, fun n c e q => b.2 n c e (a.2 n c e q)⟩
theorem Keep.refl (p : Nat) (h : DH) : Keep p h h := ⟨Nat.le_refl _, fun _ _ _ q => q⟩
theorem Keep.app (p : Nat) (h g : DH) : Keep p h (h ++ g) := ⟨by rw [List.length_append]; omega, fun _ _ _ q => at_old q⟩
theorem Keep.set (p : Nat) (h : DH) (c : Cell) : Keep p h (h.set p c) := ⟨by rw [List.length_set]; omega, fun n c e q => by rw [List.getElem?_set_ne (Ne.symm e)]; exact q⟩
theorem eq_digit {c : Nat} {h : DH} {p : Nat} (hp : Pool c h p) (many : Int) (hm : 0 < many ∧ many < 1606938044258990275541962092341162602522202993782792835301376) :
    ∃ d h', (0 ≤ d ∧ d < many) ∧ F__law_digit [.ref p, .int many] h = .ok (.int d) h' ∧ Pool c h' p ∧ Keep p h h' := by
  obtain ⟨k, rest, cs, cp, hpe, hce⟩ := hp
  have pl := lt_of_at hpe
  have md : ∀ x : Int, 0 ≤ x % many ∧ x % many < many := fun x => mod_of hm.1
  have p18 : (10 : Int) ^ (18 : Int).toNat = 10 ^ 18 := rfl
  by_cases r : 0 < rest
  · have pt := put_at (h := h) (n := p) (j := 2) (v := .int (rest / many)) hpe (by simp)
    simp only [Int.cast_ofNat_Int] at pt
    refine ⟨rest % many, h.set p (.lst [.ref c, .int (k : Int), .int (rest / many)]), md _, ?_, ⟨k, rest / many, cs, cp, List.getElem?_set_self pl, by rw [List.getElem?_set_ne (Ne.symm cp)]; exact hce⟩, Keep.set p h _⟩
    simp -implicitDefEqProofs [F__law_digit, ix_at, hpe, atI_2, r, pt, oDiv_int, oMod_int, hm]
  · have tl : ∀ (cell : Int) (h2 : DH), h2[p]? = some (.lst [.ref c, .int ((k : Int) + 1), .int rest]) → ∃ d h', (0 ≤ d ∧ d < many) ∧ (∃ rest', h' = h2 ∧ rest' = rest ∨ h' = h2.set p (.lst [.ref c, .int ((k : Int) + 1), .int rest'])) ∧
        ((dSeq (dIf (dTest (dBin oGe (dVar 5) (dBin oPow (dC (D.int 10)) (dC (D.int 18))))) (dSeq (dPut (dVar 0) (dC (D.int 2)) (dBin oDiv (dVar 5) (dVar 1))) (dRet (dBin oMod (dCB bInt (dCons (dVar 5) dNil)) (dVar 1)))) dSkip) (dSeq (dSet 6 (dBin oMod (dCB bInt (dCons (dBin oAdd (dBin oAdd (dBin oMul (dVar 5) (dC (D.int 48271))) (dBin oMul (dVar 4) (dC (D.int 7919)))) (dC (D.int 30103))) dNil)) (dC (D.int 2147483647)))) (dSeq (dSet 6 (dBin oMod (dCB bInt (dCons (dBin oMul (dVar 6) (dBin oAdd (dBin oDiv (dVar 6) (dC (D.int 1013))) (dC (D.int 69623)))) dNil)) (dC (D.int 2147483629)))) (dSeq (dSet 6 (dBin oMod (dCB bInt (dCons (dBin oMul (dVar 6) (dBin oAdd (dBin oDiv (dVar 6) (dC (D.int 2011))) (dC (D.int 40699)))) dNil)) (dC (D.int 2147483587)))) (dRet (dBin oMod (dCB bInt (dCons (dBin oDiv (dVar 6) (dC (D.int 32))) dNil)) (dVar 1))))))) [some (.ref p), some (.int many), none, some (.ref c), some (.int (k : Int)), some (.int cell), none] h2).fin = .ok (.int d) h' := fun cell h2 e2 => by
      by_cases b : (10 : Int) ^ 18 ≤ cell
      · have b' : 1000000000000000000 ≤ cell := b
        have pt := put_at (h := h2) (n := p) (j := 2) (v := .int (cell / many)) e2 (by simp)
        simp only [Int.cast_ofNat_Int] at pt
        refine ⟨cell % many, h2.set p (.lst [.ref c, .int ((k : Int) + 1), .int (cell / many)]), md _, ⟨cell / many, .inr rfl⟩, ?_⟩
        simp -implicitDefEqProofs [oPow_int, p18, b', pt, oDiv_int, oMod_int, hm]
      · have b' : ¬ 1000000000000000000 ≤ cell := b
        have m1 := mod_of (x := cell * 48271 + (k : Int) * 7919 + 30103) (s := 2147483647) (by decide)
        have m2 := mod_of (x := ((cell * 48271 + (k : Int) * 7919 + 30103) % 2147483647) * ((cell * 48271 + (k : Int) * 7919 + 30103) % 2147483647 / 1013 + 69623)) (s := 2147483629) (by decide)
        refine ⟨(((cell * 48271 + (k : Int) * 7919 + 30103) % 2147483647) * ((cell * 48271 + (k : Int) * 7919 + 30103) % 2147483647 / 1013 + 69623) % 2147483629) * ((((cell * 48271 + (k : Int) * 7919 + 30103) % 2147483647) * ((cell * 48271 + (k : Int) * 7919 + 30103) % 2147483647 / 1013 + 69623) % 2147483629) / 2011 + 40699) % 2147483587 / 32 % many, h2, md _, ⟨rest, .inl ⟨rfl, rfl⟩⟩, ?_⟩
        simp -implicitDefEqProofs (disch := omega) [oPow_int, p18, b', oMul_r, oMul_l, oMod_int, oDiv_int]
    obtain ⟨h1, hh1⟩ : ∃ h1 : DH, h1 = h.set p (.lst [.ref c, .int ((k : Int) + 1), .int rest]) := ⟨_, rfl⟩
    have pt := put_at (h := h) (n := p) (j := 1) (v := .int ((k : Int) + 1)) hpe (by simp)
    simp only [Int.cast_ofNat_Int, List.set_cons_succ, List.set_cons_zero] at pt
    rw [← hh1] at pt
    have p1 : h1[p]? = some (.lst [.ref c, .int ((k : Int) + 1), .int rest]) := by rw [hh1]; exact List.getElem?_set_self pl
    have c1 : h1[c]? = some (.lst (cs.map D.int)) := by rw [hh1, List.getElem?_set_ne (Ne.symm cp)]; exact hce
    have k1 : Keep p h h1 := by rw [hh1]; exact Keep.set p h _
    -- what the tail leaves
    have fin : ∀ (h2 h' : DH), Keep p h1 h2 → h2[p]? = some (.lst [.ref c, .int ((k : Int) + 1), .int rest]) → h2[c]? = some (.lst (cs.map D.int)) → (∃ rest', h' = h2 ∧ rest' = rest ∨ h' = h2.set p (.lst [.ref c, .int ((k : Int) + 1), .int rest'])) → Pool c h' p ∧ Keep p h h' := fun h2 h' kk e2 ec ⟨rest', o⟩ => by
      rcases o with ⟨rfl, rfl⟩ | rfl
      · exact ⟨⟨k + 1, rest', cs, cp, by rw [e2]; rfl, ec⟩, k1.trans kk⟩
      · exact ⟨⟨k + 1, rest', cs, cp, by rw [List.getElem?_set_self (lt_of_at e2)]; rfl, by rw [List.getElem?_set_ne (Ne.symm cp)]; exact ec⟩, k1.trans (kk.trans (Keep.set p h2 _))⟩
    unfold F__law_digit
    generalize (dSeq (dIf (dTest (dBin oGe (dVar 5) (dBin oPow (dC (D.int 10)) (dC (D.int 18))))) (dSeq (dPut (dVar 0) (dC (D.int 2)) (dBin oDiv (dVar 5) (dVar 1))) (dRet (dBin oMod (dCB bInt (dCons (dVar 5) dNil)) (dVar 1)))) dSkip) (dSeq (dSet 6 (dBin oMod (dCB bInt (dCons (dBin oAdd (dBin oAdd (dBin oMul (dVar 5) (dC (D.int 48271))) (dBin oMul (dVar 4) (dC (D.int 7919)))) (dC (D.int 30103))) dNil)) (dC (D.int 2147483647)))) (dSeq (dSet 6 (dBin oMod (dCB bInt (dCons (dBin oMul (dVar 6) (dBin oAdd (dBin oDiv (dVar 6) (dC (D.int 1013))) (dC (D.int 69623)))) dNil)) (dC (D.int 2147483629)))) (dSeq (dSet 6 (dBin oMod (dCB bInt (dCons (dBin oMul (dVar 6) (dBin oAdd (dBin oDiv (dVar 6) (dC (D.int 2011))) (dC (D.int 40699)))) dNil)) (dC (D.int 2147483587)))) (dRet (dBin oMod (dCB bInt (dCons (dBin oDiv (dVar 6) (dC (D.int 32))) dNil)) (dVar 1))))))) = T at tl ⊢
    by_cases kl : k < cs.length
    · obtain ⟨d, h', e1, e2, e3⟩ := tl cs[k] h1 p1
      obtain ⟨f1, f2⟩ := fin h1 h' (Keep.refl p h1) p1 c1 e2
      have q : L2.atI (cs.map D.int) (k : Int) = some (.int cs[k]) := atI_n (by rw [List.getElem?_map, List.getElem?_eq_getElem kl]; rfl)
      refine ⟨d, h', e1, ?_, f1, f2⟩
      simp -implicitDefEqProofs [ix_at, hpe, atI_0, atI_1, atI_2, r, pt, p1, c1, bLen_lst c1, kl, q, oMul_l, e3]
    · have kl' : ¬ (k : Int) < (cs.length : Int) := by omega
      have ne := oNe_lsts (h := h1 ++ [.lst []]) (n := c) (m := h1.length) (l := cs) (l2 := []) (at_old c1) at_new
      have p2 : (h1 ++ [Cell.lst []])[p]? = some (.lst [.ref c, .int ((k : Int) + 1), .int rest]) := at_old p1
      have c2 : (h1 ++ [Cell.lst []])[c]? = some (.lst (cs.map D.int)) := at_old c1
      cases cs with
      | nil =>
        obtain ⟨d, h', e1, e2, e3⟩ := tl (7 * (k : Int) + 2) (h1 ++ [.lst []]) p2
        obtain ⟨f1, f2⟩ := fin _ h' (Keep.app p h1 _) p2 c2 e2
        refine ⟨d, h', e1, ?_, f1, f2⟩
        simp at ne
        have kl2 : ¬ (k : Int) < 0 := by omega
        simp -implicitDefEqProofs [ix_at, hpe, atI_0, atI_1, atI_2, r, pt, p1, c1, bLen_lst c1, kl2, oMul_l, ne, e3]
      | cons a cs =>
        obtain ⟨d, h', e1, e2, e3⟩ := tl (a % 1000003 * 13 + 7 * (k : Int) + 2) (h1 ++ [.lst []]) p2
        obtain ⟨f1, f2⟩ := fin _ h' (Keep.app p h1 _) p2 c2 e2
        refine ⟨d, h', e1, ?_, f1, f2⟩
        simp at ne kl'
        have kl2 : ¬ (k : Int) < (cs.length : Int) + 1 := by omega
        simp only [List.map_cons] at c1 c2
        simp -implicitDefEqProofs [ix_at, hpe, atI_0, atI_1, atI_2, r, pt, p1, c1, c2, bLen_lst c1, kl2, oMul_l, oMul_r, oMod_int, ne, e3]
theorem has__law_digit (A : All K mg) : Has P w K mg base 1 "_law_digit" ["_law_pool", "_law_many"] F__law_digit := has_of A.e__law_digit fun f fd F => ok__law_digit A.T  F
/-! ### _law_is_life -/
noncomputable def F__law_is_life : Fn := dDef 2 2 (dSeq (dIf (dTest (dBin oIsN (dVar 1) (dC D.non))) (dRet (dBin oIsN (dVar 0) (dC D.non))) dSkip) (dRet (dAndV (dIs .int (dVar 0)) (dAndV (dNotV (dIs .bl (dVar 0))) (dBin oEq (dVar 0) (dVar 1))))))
theorem ok__law_is_life (T : Txt K mg)  {f : Addr} {fd : FuncData} (F : Fun K "_law_is_life" "_law_is_life" s__law_is_life f fd) : FnOk P w K mg base (L2.CX P w) 1 f fd ["_law_found", "_law_due"] (spD K mg F__law_is_life) := by
  refine fn_ok F sc__law_is_life (fun cdv A outer s H E hr => ?_)
  have nd := sc__law_is_life.nd
  have hp := passes_of (X := cxOf (L2.CX P w) P w K mg base ["_law_found", "_law_due"] "_law_is_life" (defScope s__law_is_life) f cdv A outer s H E) (K := fun e s'' => L2.CX P w outer H s E e s'') rfl
  have tk := takes_of (X := cxOf (L2.CX P w) P w K mg base ["_law_found", "_law_due"] "_law_is_life" (defScope s__law_is_life) f cdv A outer s H E) (E := E) rfl rfl rfl rfl
  exact (dss_cons (ds_if (dt_cmp op_isX os_is (de_var 1) de_non) (dss_one (ds_ret (de_cmp op_isX os_is (de_var 0) de_non))) dss_nil) (dss_one (ds_ret (de_and (de_is .int (by decide) T.n_isinstance T.n_int (de_var 0)) (de_and (de_not (de_is .bl (by decide) T.n_isinstance T.n_bool (de_var 0))) (de_one (de_cmp (op_eqX hr.units) os_eq (de_var 0) (de_var 1))))))))
theorem has__law_is_life (A : All K mg) : Has P w K mg base 1 "_law_is_life" ["_law_found", "_law_due"] F__law_is_life := has_of A.e__law_is_life fun f fd F => ok__law_is_life A.T  F
/-! ### _law_room -/
noncomputable def F__law_room : Fn := dDef 2 2 (dSeq (dIf (dTest (dBin oEq (dVar 1) (dC (D.int 1)))) (dRet (dCall F__law_digit (dCons (dVar 0) (dCons (dC (D.int 10)) dNil)))) dSkip) (dSeq (dIf (dTest (dBin oEq (dVar 1) (dC (D.int 2)))) (dRet (dCall F__law_digit (dCons (dVar 0) (dCons (dBin oAdd (dBin oPow (dC (D.int 10)) (dC (D.int 6))) (dC (D.int 1))) dNil)))) dSkip) (dSeq (dIf (dTest (dBin oEq (dVar 1) (dC (D.int 3)))) (dRet (dBin oSub (dBin oPow (dC (D.int 10)) (dC (D.int 9))) (dCall F__law_digit (dCons (dVar 0) (dCons (dC (D.int 40)) dNil))))) dSkip) (dRet (dCB bInt (dCons (dCall F__law_digit (dCons (dVar 0) (dCons (dBin oAdd (dBin oPow (dC (D.int 10)) (dC (D.int 9))) (dC (D.int 1))) dNil))) dNil))))))
theorem ok__law_room (T : Txt K mg) (h__law_digit : Has P w K mg base 1 "_law_digit" ["_law_pool", "_law_many"] F__law_digit) {f : Addr} {fd : FuncData} (F : Fun K "_law_room" "_law_room" s__law_room f fd) : FnOk P w K mg base (L2.CX P w) 2 f fd ["_law_pool", "_law_kind"] (spD K mg F__law_room) := by
  refine fn_ok F sc__law_room (fun cdv A outer s H E hr => ?_)
  have nd := sc__law_room.nd
  have hp := passes_of (X := cxOf (L2.CX P w) P w K mg base ["_law_pool", "_law_kind"] "_law_room" (defScope s__law_room) f cdv A outer s H E) (K := fun e s'' => L2.CX P w outer H s E e s'') rfl
  have tk := takes_of (X := cxOf (L2.CX P w) P w K mg base ["_law_pool", "_law_kind"] "_law_room" (defScope s__law_room) f cdv A outer s H E) (E := E) rfl rfl rfl rfl
  exact (dss_cons (ds_if (dt_cmp (op_eqX hr.units) os_eq (de_var 1) de_int) (dss_one (ds_ret (de_has h__law_digit hr (by decide) tk (da_cons (de_var 0) (da_cons de_int da_nil))))) dss_nil) (dss_cons (ds_if (dt_cmp (op_eqX hr.units) os_eq (de_var 1) de_int) (dss_one (ds_ret (de_has h__law_digit hr (by decide) tk (da_cons (de_var 0) (da_cons (de_op op_addX os_add (de_op op_pow os_pow de_int de_int) de_int) da_nil))))) dss_nil) (dss_cons (ds_if (dt_cmp (op_eqX hr.units) os_eq (de_var 1) de_int) (dss_one (ds_ret (de_op op_sub os_sub (de_op op_pow os_pow de_int de_int) (de_has h__law_digit hr (by decide) tk (da_cons (de_var 0) (da_cons de_int da_nil)))))) dss_nil) (dss_one (ds_ret (de_callTy call_intX cs_int T.n_int (da_cons (de_has h__law_digit hr (by decide) tk (da_cons (de_var 0) (da_cons (de_op op_addX os_add (de_op op_pow os_pow de_int de_int) de_int) da_nil))) da_nil)))))))
theorem eq_room {c : Nat} {h : DH} {p : Nat} (hp : Pool c h p) (kind : Int) : ∃ d h', (0 ≤ d ∧ d ≤ 1000000000) ∧ F__law_room [.ref p, .int kind] h = .ok (.int d) h' ∧ Pool c h' p ∧ Keep p h h' := by
  have p6 : (10 : Int) ^ (6 : Int).toNat = 10 ^ 6 := rfl
  have p9 : (10 : Int) ^ (9 : Int).toNat = 10 ^ 9 := rfl
  by_cases k1 : kind = 1
  · obtain ⟨d, h', e, f, g, k⟩ := eq_digit hp 10 (by decide)
    refine ⟨d, h', by omega, ?_, g, k⟩
    simp -implicitDefEqProofs [F__law_room, k1, f]
  · by_cases k2 : kind = 2
    · obtain ⟨d, h', e, f, g, k⟩ := eq_digit hp 1000001 (by decide)
      refine ⟨d, h', by omega, ?_, g, k⟩
      simp -implicitDefEqProofs [F__law_room, k2, oPow_int, p6, f]
    · by_cases k3 : kind = 3
      · obtain ⟨d, h', e, f, g, k⟩ := eq_digit hp 40 (by decide)
        refine ⟨1000000000 - d, h', by omega, ?_, g, k⟩
        simp -implicitDefEqProofs [F__law_room, k3, oPow_int, p9, f]
      · obtain ⟨d, h', e, f, g, k⟩ := eq_digit hp 1000000001 (by decide)
        refine ⟨d, h', by omega, ?_, g, k⟩
        simp -implicitDefEqProofs [F__law_room, k1, k2, k3, oPow_int, p9, f]
theorem has__law_room (A : All K mg) : Has P w K mg base 2 "_law_room" ["_law_pool", "_law_kind"] F__law_room := has_of A.e__law_room fun f fd F => ok__law_room A.T (has__law_digit A) F
/-! ### _law_great -/
noncomputable def B__law_great_1 : FS := (dIf (dTest (dBin oLt (dVar 7) (dC (D.int 12)))) (dDrop (dBM "list" mAppend (dVar 6) (dCons (dCall F__law_room (dCons (dVar 0) (dCons (dVar 2) dNil))) dNil))) (dDrop (dBM "list" mAppend (dVar 6) (dCons (dBin oMod (dBin oAdd (dBin oMul (dVar 7) (dVar 7)) (dVar 4)) (dC (D.int 3))) dNil))))
noncomputable def F__law_great : Fn := dDef 1 9 (dSeq (dSet 1 (dBin oAdd (dC (D.int 1)) (dCall F__law_digit (dCons (dVar 0) (dCons (dC (D.int 100)) dNil))))) (dSeq (dIf (dTest (dBin oEq (dCall F__law_digit (dCons (dVar 0) (dCons (dC (D.int 2)) dNil))) (dC (D.int 1)))) (dSet 1 (dBin oAdd (dC (D.int 1)) (dBin oMod (dVar 1) (dC (D.int 6))))) dSkip) (dSeq (dSet 2 (dBin oAdd (dC (D.int 1)) (dCall F__law_digit (dCons (dVar 0) (dCons (dC (D.int 4)) dNil))))) (dSeq (dSet 3 (dCall F__law_digit (dCons (dVar 0) (dCons (dC (D.int 2)) dNil)))) (dSeq (dSet 4 (dCall F__law_digit (dCons (dVar 0) (dCons (dC (D.int 7)) dNil)))) (dSeq (dSet 5 (dCall F__law_digit (dCons (dVar 0) (dCons (dVar 1) dNil)))) (dSeq (dSet 6 (dLst dNil)) (dSeq (dFor (dRng (dCons (dVar 1) dNil)) (gN 7) B__law_great_1) (dSeq (dIf (dTest (dBin oEq (dVar 3) (dC (D.int 1)))) (dSeq (dSet 8 (dBin oSub (dBin oAdd (dBin oSub (dCB bSum (dCons (dVar 6) dNil)) (dBin oIx (dVar 6) (dVar 5))) (dVar 4)) (dC (D.int 3)))) (dIf (dAndT (dTest (dBin oGe (dVar 8) (dC (D.int 0)))) (dTest (dBin oLe (dVar 8) (dBin oPow (dC (D.int 10)) (dC (D.int 9)))))) (dPut (dVar 6) (dVar 5) (dVar 8)) dSkip)) dSkip) (dRet (dVar 6)))))))))))
theorem ok__law_great (T : Txt K mg) (h__law_digit : Has P w K mg base 1 "_law_digit" ["_law_pool", "_law_many"] F__law_digit) (h__law_room : Has P w K mg base 2 "_law_room" ["_law_pool", "_law_kind"] F__law_room) {f : Addr} {fd : FuncData} (F : Fun K "_law_great" "_law_great" s__law_great f fd) : FnOk P w K mg base (L2.CX P w) 3 f fd ["_law_pool"] (spD K mg F__law_great) := by
  refine fn_ok F sc__law_great (fun cdv A outer s H E hr => ?_)
  have nd := sc__law_great.nd
  have hp := passes_of (X := cxOf (L2.CX P w) P w K mg base ["_law_pool", "_law_many", "_law_kind", "_law_even", "_law_more", "_law_place", "_law_rooms", "_law_k", "_law_others"] "_law_great" (defScope s__law_great) f cdv A outer s H E) (K := fun e s'' => L2.CX P w outer H s E e s'') rfl
  have tk := takes_of (X := cxOf (L2.CX P w) P w K mg base ["_law_pool", "_law_many", "_law_kind", "_law_even", "_law_more", "_law_place", "_law_rooms", "_law_k", "_law_others"] "_law_great" (defScope s__law_great) f cdv A outer s H E) (E := E) rfl rfl rfl rfl
  exact (dss_cons (ds_set 1 nd (de_op op_addX os_add de_int (de_has h__law_digit hr (by decide) tk (da_cons (de_var 0) (da_cons de_int da_nil))))) (dss_cons (ds_if (dt_cmp (op_eqX hr.units) os_eq (de_has h__law_digit hr (by decide) tk (da_cons (de_var 0) (da_cons de_int da_nil))) de_int) (dss_one (ds_set 1 nd (de_op op_addX os_add de_int (de_op op_mod os_mod (de_var 1) de_int)))) dss_nil) (dss_cons (ds_set 2 nd (de_op op_addX os_add de_int (de_has h__law_digit hr (by decide) tk (da_cons (de_var 0) (da_cons de_int da_nil))))) (dss_cons (ds_set 3 nd (de_has h__law_digit hr (by decide) tk (da_cons (de_var 0) (da_cons de_int da_nil)))) (dss_cons (ds_set 4 nd (de_has h__law_digit hr (by decide) tk (da_cons (de_var 0) (da_cons de_int da_nil)))) (dss_cons (ds_set 5 nd (de_has h__law_digit hr (by decide) tk (da_cons (de_var 0) (da_cons (de_var 1) da_nil)))) (dss_cons (ds_set 6 nd (de_lst da_nil)) (dss_cons (ds_for hp rfl (di_rng1 T.n_range (da_cons (de_var 1) da_nil)) (dg_name 7 nd) (dss_one (ds_if (dt_cmp op_lt os_ord (de_var 7) de_int) (dss_one (ds_expr (de_bm mt_append ms_append PySem.F.plainAttrs_list PySem.F.slot_list_append PySem.F.type_list_append (de_var 6) (da_cons (de_has h__law_room hr (by decide) tk (da_cons (de_var 0) (da_cons (de_var 2) da_nil))) da_nil)))) (dss_one (ds_expr (de_bm mt_append ms_append PySem.F.plainAttrs_list PySem.F.slot_list_append PySem.F.type_list_append (de_var 6) (da_cons (de_op op_mod os_mod (de_op op_addX os_add (de_op op_mulX os_mul (de_var 7) (de_var 7)) (de_var 4)) de_int) da_nil))))))) (dss_cons (ds_if (dt_cmp (op_eqX hr.units) os_eq (de_var 3) de_int) (dss_cons (ds_set 8 nd (de_op op_sub os_sub (de_op op_addX os_add (de_op op_sub os_sub (de_callB (cr_sum rfl) cs_sum T.n_sum (da_cons (de_var 6) da_nil)) (de_ix (de_var 6) (de_var 5))) (de_var 4)) de_int)) (dss_one (ds_if (PW.pt (dw_and (dt_cmp op_ge os_ord (de_var 8) de_int) (dw_and1 (dt_cmp op_le os_ord (de_var 8) (de_op op_pow os_pow de_int de_int))))) (dss_one (ds_put (hu_of hr) (de_var 6) (de_var 5) (de_var 8))) dss_nil))) dss_nil) (dss_one (ds_ret (de_var 6))))))))))))
theorem Pool.app {c : Nat} {h : DH} {p : Nat} (hp : Pool c h p) (g : DH) : Pool c (h ++ g) p := by
  obtain ⟨k, rest, cs, a, b, e⟩ := hp
  exact ⟨k, rest, cs, a, at_old b, at_old e⟩
theorem Pool.put {c : Nat} {h : DH} {p : Nat} (hp : Pool c h p) {n : Nat} {x : Cell} (hn : n ≠ p) (hc : n ≠ c) : Pool c (h.set n x) p := by
  obtain ⟨k, rest, cs, a, b, e⟩ := hp
  exact ⟨k, rest, cs, a, by rw [List.getElem?_set_ne hn]; exact b, by rw [List.getElem?_set_ne hc]; exact e⟩
theorem eq_great {c : Nat} {h : DH} {p : Nat} (hp : Pool c h p) : ∃ (l : List Int) (n : Nat) (h' : DH), Rooms l ∧ F__law_great [.ref p] h = .ok (.ref n) h' ∧ Pool c h' p ∧ h'[n]? = some (.lst (l.map D.int)) ∧ n ≠ p ∧ n ≠ c := by
  obtain ⟨d1, h1, r1, e1, p1, k1⟩ := eq_digit hp 100 (by decide)
  obtain ⟨d2, h2, r2, e2, p2, k2⟩ := eq_digit p1 2 (by decide)
  have z : ∃ many : Nat, 1 ≤ many ∧ many ≤ 100 ∧ (if d2 = 1 then 1 + (1 + d1) % 6 else 1 + d1) = (many : Int) := by
    have := mod_of (x := 1 + d1) (s := 6) (by decide)
    refine ⟨(if d2 = 1 then 1 + (1 + d1) % 6 else 1 + d1).toNat, ?_, ?_, ?_⟩ <;> split <;> omega
  obtain ⟨many, m1, m2, hm⟩ := z
  obtain ⟨d3, h3, r3, e3, p3, k3⟩ := eq_digit p2 4 (by decide)
  obtain ⟨d4, h4, r4, e4, p4, k4⟩ := eq_digit p3 2 (by decide)
  obtain ⟨d5, h5, r5, e5, p5, k5⟩ := eq_digit p4 7 (by decide)
  obtain ⟨d6, h6, r6, e6, p6, k6⟩ := eq_digit p5 (many : Int) ⟨by omega, by omega⟩
  have pl : p < h6.length := by obtain ⟨k, rest, cs, a, b, e⟩ := p6; exact lt_of_at b
  have cl : c < h6.length := by obtain ⟨k, rest, cs, a, b, e⟩ := p6; exact lt_of_at e
  obtain ⟨σ', h7, f, x7, l, b7, hl, l0, ql, rfl⟩ := for_run (keep := fun _ => True) (gg := gN 7) (b := B__law_great_1) (ds := rngD 0 many)
    (fun i σ h' => ∃ x7 l, Pool c h' p ∧ h'[h6.length]? = some (.lst (l.map D.int)) ∧ l.length = i ∧ (∀ y ∈ l, 0 ≤ y ∧ y ≤ 1000000000) ∧ σ = [some (.ref p), some (.int (many : Int)), some (.int (1 + d3)), some (.int d4), some (.int d5), some (.int d6), some (.ref h6.length), x7, none])
    (fun _ _ _ _ => trivial)
    (fun i d σ h' hd ⟨x7, l, hp', hl, li, lb, e⟩ => by
      subst e
      obtain ⟨il, rfl⟩ := rngD_get hd
      by_cases i12 : i < 12
      · obtain ⟨d, h'', rr, ee, pp, kk⟩ := eq_room hp' (1 + d3)
        have hl' := kk.2 h6.length _ (by omega) hl
        have ll : (l.map D.int).length < 16777216 := by rw [List.length_map]; omega
        refine ⟨_, rfl, [some (.ref p), some (.int (many : Int)), some (.int (1 + d3)), some (.int d4), some (.int d5), some (.int d6), some (.ref h6.length), some (.int (0 + (i : Int))), none], h''.set h6.length (.lst ((l ++ [d]).map D.int)), .inl ?_, _, l ++ [d], pp.put (by omega) (by omega), List.getElem?_set_self (lt_of_at hl'), by simp [li], fun y hy => ?_, rfl⟩
        · have i12' : (i : Int) < 12 := by omega
          simp -implicitDefEqProofs [B__law_great_1, i12', rcv_lst hl, ee, mAppend_lst hl' ll]
        · rcases List.mem_append.mp hy with hy | hy
          · exact lb y hy
          · rw [List.mem_singleton.mp hy]
            exact rr
      · have i12' : ¬ (i : Int) < 12 := by omega
        have ll : (l.map D.int).length < 16777216 := by rw [List.length_map]; omega
        have m3 := mod_of (x := (i : Int) * (i : Int) + d5) (s := 3) (by decide)
        refine ⟨_, rfl, [some (.ref p), some (.int (many : Int)), some (.int (1 + d3)), some (.int d4), some (.int d5), some (.int d6), some (.ref h6.length), some (.int (0 + (i : Int))), none], h'.set h6.length (.lst ((l ++ [((i : Int) * (i : Int) + d5) % 3]).map D.int)), .inl ?_, _, l ++ [((i : Int) * (i : Int) + d5) % 3], hp'.put (by omega) (by omega), List.getElem?_set_self (lt_of_at hl), by simp [li], fun y hy => ?_, rfl⟩
        · have im : oMul (.int (i : Int)) (.int (i : Int)) h' = .ok (.int ((i : Int) * (i : Int))) h' := oMul_l (by omega)
          simp -implicitDefEqProofs [B__law_great_1, i12, i12', rcv_lst hl, im, oMod_int, mAppend_lst hl ll]
        · rcases List.mem_append.mp hy with hy | hy
          · exact lb y hy
          · rw [List.mem_singleton.mp hy]
            omega)
    [some (.ref p), some (.int (many : Int)), some (.int (1 + d3)), some (.int d4), some (.int d5), some (.int d6), some (.ref h6.length), none, none] (h6 ++ [.lst []]) ⟨none, [], p6.app _, by rw [hp_0]; rfl, rfl, fun y hy => (by cases hy), rfl⟩
  have rg := rngS_nat (n := many) (h := h6 ++ [.lst []]) (by omega)
  rw [rngD_len] at l0
  obtain ⟨j, rfl⟩ : ∃ j : Nat, d6 = (j : Int) := ⟨d6.toNat, by omega⟩
  have jl : j < l.length := by omega
  have q : L2.atI (l.map D.int) (j : Int) = some (.int l[j]) := atI_n (by rw [List.getElem?_map, List.getElem?_eq_getElem jl]; rfl)
  have p9 : (10 : Int) ^ (9 : Int).toNat = 10 ^ 9 := rfl
  have ok : Rooms l := ⟨ql, by omega, by omega⟩
  have pt := put_at (h := h7) (n := h6.length) (j := j) (v := .int (l.sum - l[j] + d5 - 3)) hl (by rw [List.length_map]; exact jl)
  rw [show D.int (l.sum - l[j] + d5 - 3) = D.int (l.sum - l[j] + d5 - 3) from rfl, ← List.map_set] at pt
  have sm := sum_at hl
  have ok2 : 0 ≤ l.sum - l[j] + d5 - 3 ∧ l.sum - l[j] + d5 - 3 ≤ 1000000000 → Rooms (l.set j (l.sum - l[j] + d5 - 3)) := fun c5 => ⟨fun y hy => by
    rcases List.mem_or_eq_of_mem_set hy with hy | rfl
    · exact ql y hy
    · exact c5, by rw [List.length_set]; omega, by rw [List.length_set]; omega⟩
  generalize hw : l.sum - l[j] + d5 - 3 = w at pt ok2
  have c4z : d4 ≠ 1 → ∃ h' , F__law_great [.ref p] h = .ok (.ref h6.length) h' ∧ h' = h7 := fun c4 => by
    refine ⟨h7, ?_, rfl⟩
    by_cases c2 : d2 = 1
    · rw [if_pos c2] at hm
      simp -implicitDefEqProofs [F__law_great, e1, e2, c2, oMod_int, hm, e3, e4, e5, e6, rg, f, c4]
    · rw [if_neg c2] at hm
      simp -implicitDefEqProofs [F__law_great, e1, e2, c2, oMod_int, hm, e3, e4, e5, e6, rg, f, c4]
  by_cases c4 : d4 = 1
  · subst c4
    by_cases c5 : 0 ≤ w ∧ w ≤ 1000000000
    · refine ⟨l.set j w, h6.length, h7.set h6.length (.lst ((l.set j w).map D.int)), ok2 c5, ?_, b7.put (by omega) (by omega), List.getElem?_set_self (lt_of_at hl), by omega, by omega⟩
      by_cases c2 : d2 = 1
      · rw [if_pos c2] at hm
        simp -implicitDefEqProofs [F__law_great, e1, e2, c2, oMod_int, hm, e3, e4, e5, e6, rg, f, sm, ix_at, hl, q, hw, c5, oPow_int, p9, pt, -List.map_set]
      · rw [if_neg c2] at hm
        simp -implicitDefEqProofs [F__law_great, e1, e2, c2, oMod_int, hm, e3, e4, e5, e6, rg, f, sm, ix_at, hl, q, hw, c5, oPow_int, p9, pt, -List.map_set]
    · refine ⟨l, h6.length, h7, ok, ?_, b7, hl, by omega, by omega⟩
      have c6 : 0 ≤ w → ¬ w ≤ 1000000000 := fun a b => c5 ⟨a, b⟩
      by_cases c2 : d2 = 1
      · rw [if_pos c2] at hm
        by_cases c7 : 0 ≤ w
        · simp -implicitDefEqProofs [F__law_great, e1, e2, c2, oMod_int, hm, e3, e4, e5, e6, rg, f, sm, ix_at, hl, q, hw, c7, c6 c7, oPow_int, p9]
        · simp -implicitDefEqProofs [F__law_great, e1, e2, c2, oMod_int, hm, e3, e4, e5, e6, rg, f, sm, ix_at, hl, q, hw, c7, oPow_int, p9]
      · rw [if_neg c2] at hm
        by_cases c7 : 0 ≤ w
        · simp -implicitDefEqProofs [F__law_great, e1, e2, c2, oMod_int, hm, e3, e4, e5, e6, rg, f, sm, ix_at, hl, q, hw, c7, c6 c7, oPow_int, p9]
        · simp -implicitDefEqProofs [F__law_great, e1, e2, c2, oMod_int, hm, e3, e4, e5, e6, rg, f, sm, ix_at, hl, q, hw, c7, oPow_int, p9]
  · obtain ⟨_, e, rfl⟩ := c4z c4
    exact ⟨l, h6.length, _, ok, e, b7, hl, by omega, by omega⟩
theorem has__law_great (A : All K mg) : Has P w K mg base 3 "_law_great" ["_law_pool"] F__law_great := has_of A.e__law_great fun f fd F => ok__law_great A.T (has__law_digit A) (has__law_room A) F
/-! ### _law_longest -/
noncomputable def B__law_longest_1 : FS := (dIf (dAndT (dTest (dBin oNe (dVar 7) (dVar 3))) (dAndT (dTest (dBin oGt (dBin oIx (dVar 2) (dVar 7)) (dC (D.int 0)))) (dOrT (dTest (dBin oIsN (dVar 6) (dC D.non))) (dTest (dBin oGt (dBin oIx (dVar 2) (dVar 7)) (dBin oIx (dVar 2) (dVar 6))))))) (dSet 6 (dVar 7)) dSkip)
noncomputable def B__law_longest_2 : FS := (dSeq (dSet 6 (dC D.non)) (dSeq (dFor (dRng (dCons (dCB bLen (dCons (dVar 2) dNil)) dNil)) (gN 7) B__law_longest_1) (dSeq (dIf (dTest (dBin oIsN (dVar 6) (dC D.non))) (dRet (dVar 4)) dSkip) (dSeq (dPut (dVar 2) (dVar 6) (dBin oSub (dBin oIx (dVar 2) (dVar 6)) (dC (D.int 1)))) (dSeq (dSet 3 (dVar 6)) (dSet 4 (dBin oAdd (dVar 4) (dC (D.int 1)))))))))
noncomputable def F__law_longest : Fn := dDef 2 8 (dSeq (dSet 2 (dCB bList (dCons (dVar 0) dNil))) (dSeq (dSet 3 (dVar 1)) (dSeq (dSet 4 (dC (D.int 0))) (dSeq (dFor (dRng (dCons (dCB bSum (dCons (dVar 0) dNil)) dNil)) (gN 5) B__law_longest_2) (dRet (dVar 4))))))
theorem ok__law_longest (T : Txt K mg)  {f : Addr} {fd : FuncData} (F : Fun K "_law_longest" "_law_longest" s__law_longest f fd) : FnOk P w K mg base (L2.CX P w) 1 f fd ["_law_rooms", "_law_at"] (spD K mg F__law_longest) := by
  refine fn_ok F sc__law_longest (fun cdv A outer s H E hr => ?_)
  have nd := sc__law_longest.nd
  have hp := passes_of (X := cxOf (L2.CX P w) P w K mg base ["_law_rooms", "_law_at", "_law_room_here", "_law_last", "_law_length", "_law_step", "_law_best", "_law_b"] "_law_longest" (defScope s__law_longest) f cdv A outer s H E) (K := fun e s'' => L2.CX P w outer H s E e s'') rfl
  have tk := takes_of (X := cxOf (L2.CX P w) P w K mg base ["_law_rooms", "_law_at", "_law_room_here", "_law_last", "_law_length", "_law_step", "_law_best", "_law_b"] "_law_longest" (defScope s__law_longest) f cdv A outer s H E) (E := E) rfl rfl rfl rfl
  exact (dss_cons (ds_set 2 nd (de_callTy call_list_of cs_list T.n_list (da_cons (de_var 0) da_nil))) (dss_cons (ds_set 3 nd (de_var 1)) (dss_cons (ds_set 4 nd de_int) (dss_cons (ds_for hp rfl (di_rng1 T.n_range (da_cons (de_callB (cr_sum rfl) cs_sum T.n_sum (da_cons (de_var 0) da_nil)) da_nil)) (dg_name 5 nd) (dss_cons (ds_set 6 nd de_non) (dss_cons (ds_for hp rfl (di_rng1 T.n_range (da_cons (de_callB call_len cs_len T.n_len (da_cons (de_var 2) da_nil)) da_nil)) (dg_name 7 nd) (dss_one (ds_if (PW.pt (dw_and (dt_cmp (op_neX hr.units) os_ne (de_var 7) (de_var 3)) (dw_and (dt_cmp op_gt os_ord (de_ix (de_var 2) (de_var 7)) de_int) (dw_and1 (PW.pt (dw_or (dt_cmp op_isX os_is (de_var 6) de_non) (dw_or1 (dt_cmp op_gt os_ord (de_ix (de_var 2) (de_var 7)) (de_ix (de_var 2) (de_var 6)))))))))) (dss_one (ds_set 6 nd (de_var 7))) dss_nil))) (dss_cons (ds_if (dt_cmp op_isX os_is (de_var 6) de_non) (dss_one (ds_ret (de_var 4))) dss_nil) (dss_cons (ds_put (hu_of hr) (de_var 2) (de_var 6) (de_op op_sub os_sub (de_ix (de_var 2) (de_var 6)) de_int)) (dss_cons (ds_set 3 nd (de_var 6)) (dss_one (ds_set 4 nd (de_op op_addX os_add (de_var 4) de_int))))))))) (dss_one (ds_ret (de_var 4)))))))
/-- one look at all rooms for the fullest -/
theorem look {l : List Int} {o : Option Nat} {h : DH} {n k : Nat} {x0 x1 x4 x5 x7 : Option D} (hk : h[k]? = some (.lst (l.map D.int))) :
    ∃ (b : Option Nat) (x7' : Option D), forL (fun _ => True) (gN 7) B__law_longest_1 (rngD 0 l.length) [x0, x1, some (.ref k), some (atD o), x4, x5, some .non, x7] h = .nx [x0, x1, some (.ref k), some (atD o), x4, x5, some (atD b), x7'] h ∧
      (∀ j, b = some j → o ≠ some j ∧ ∃ v, l[j]? = some v ∧ 0 < v ∧ ∀ (c : Nat) (x : Int), o ≠ some c → l[c]? = some x → x ≤ v) ∧ (b = none → ∀ (c : Nat) (x : Int), o ≠ some c → l[c]? = some x → x ≤ 0) := by
  obtain ⟨σ', h', f, b, x7', rfl, rfl, g1, g2⟩ := for_run (keep := fun _ => True) (gg := gN 7) (b := B__law_longest_1) (ds := rngD 0 l.length)
    (fun i σ h' => ∃ (b : Option Nat) (x7' : Option D), σ = [x0, x1, some (.ref k), some (atD o), x4, x5, some (atD b), x7'] ∧ h' = h ∧
      (∀ j, b = some j → o ≠ some j ∧ ∃ v, l[j]? = some v ∧ 0 < v ∧ ∀ (c : Nat) (x : Int), c < i → o ≠ some c → l[c]? = some x → x ≤ v) ∧ (b = none → ∀ (c : Nat) (x : Int), c < i → o ≠ some c → l[c]? = some x → x ≤ 0))
    (fun _ _ _ _ => trivial)
    (fun i d σ h' hd ⟨b, x7', e, eh, g1, g2⟩ => by
      subst e eh
      obtain ⟨il, rfl⟩ := rngD_get hd
      have q : L2.atI (l.map D.int) (i : Int) = some (.int l[i]) := atI_n (by rw [List.getElem?_map, List.getElem?_eq_getElem il]; rfl)
      have qi : l[i]? = some l[i] := List.getElem?_eq_getElem il
      have ne : oNe (.int (i : Int)) (atD o) h' = .ok (.bl (!decide (o = some i))) h' := by
        cases o with
        | none => simp [atD]
        | some j =>
          have z : decide ((i : Int) = (j : Int)) = decide (j = i) := by rw [decide_eq_decide]; omega
          simp only [atD, oNe_int, Option.some.injEq]
          rw [z]
      refine ⟨_, rfl, ?_⟩
      by_cases oi : o = some i
      · refine ⟨[x0, x1, some (.ref k), some (atD o), x4, x5, some (atD b), some (.int (0 + (i : Int)))], h', .inl ?_, b, _, rfl, rfl, fun j hj => ?_, fun hb c x ci oc hx => ?_⟩
        · subst oi
          simp -implicitDefEqProofs [B__law_longest_1, ne]
        · obtain ⟨a1, v, a2, a3, a4⟩ := g1 j hj
          refine ⟨a1, v, a2, a3, fun c x ci oc hx => ?_⟩
          have : c ≠ i := fun e => oc (by rw [e, oi])
          exact a4 c x (by omega) oc hx
        · have : c ≠ i := fun e => oc (by rw [e, oi])
          exact g2 hb c x (by omega) oc hx
      · have nx : oNe (.int (i : Int)) (atD o) h' = .ok (.bl true) h' := by rw [ne, decide_eq_false oi]; rfl
        by_cases pos : 0 < l[i]
        · cases b with
          | none =>
            refine ⟨[x0, x1, some (.ref k), some (atD o), x4, x5, some (atD (some i)), some (.int (0 + (i : Int)))], h', .inl ?_, some i, _, rfl, rfl, fun j hj => ?_, fun hb => by cases hb⟩
            · simp only [atD] at nx ⊢
              simp -implicitDefEqProofs [B__law_longest_1, nx, ix_at, hk, q, pos]
            · cases hj
              refine ⟨oi, _, qi, pos, fun c x ci oc hx => ?_⟩
              by_cases e : c = i
              · subst e
                rw [qi] at hx
                injection hx with hx
                omega
              · have := g2 rfl c x (by omega) oc hx
                omega
          | some j =>
            obtain ⟨a1, v, a2, a3, a4⟩ := g1 j rfl
            have qj : L2.atI (l.map D.int) (j : Int) = some (.int v) := atI_n (by rw [List.getElem?_map, a2]; rfl)
            by_cases gt : v < l[i]
            · refine ⟨[x0, x1, some (.ref k), some (atD o), x4, x5, some (atD (some i)), some (.int (0 + (i : Int)))], h', .inl ?_, some i, _, rfl, rfl, fun j hj => ?_, fun hb => by cases hb⟩
              · simp only [atD] at nx ⊢
                simp -implicitDefEqProofs [B__law_longest_1, nx, ix_at, hk, q, qj, pos, gt]
              · cases hj
                refine ⟨oi, _, qi, pos, fun c x ci oc hx => ?_⟩
                by_cases e : c = i
                · subst e
                  rw [qi] at hx
                  injection hx with hx
                  omega
                · have := a4 c x (by omega) oc hx
                  omega
            · refine ⟨[x0, x1, some (.ref k), some (atD o), x4, x5, some (atD (some j)), some (.int (0 + (i : Int)))], h', .inl ?_, some j, _, rfl, rfl, fun j' hj => ?_, fun hb => by cases hb⟩
              · simp only [atD] at nx ⊢
                simp -implicitDefEqProofs [B__law_longest_1, nx, ix_at, hk, q, qj, pos, gt]
              · cases hj
                refine ⟨a1, v, a2, a3, fun c x ci oc hx => ?_⟩
                by_cases e : c = i
                · subst e
                  rw [qi] at hx
                  injection hx with hx
                  omega
                · exact a4 c x (by omega) oc hx
        · refine ⟨[x0, x1, some (.ref k), some (atD o), x4, x5, some (atD b), some (.int (0 + (i : Int)))], h', .inl ?_, b, _, rfl, rfl, fun j hj => ?_, fun hb c x ci oc hx => ?_⟩
          · simp -implicitDefEqProofs [B__law_longest_1, nx, ix_at, hk, q, pos]
          · obtain ⟨a1, v, a2, a3, a4⟩ := g1 j hj
            refine ⟨a1, v, a2, a3, fun c x ci oc hx => ?_⟩
            by_cases e : c = i
            · subst e
              rw [qi] at hx
              injection hx with hx
              omega
            · exact a4 c x (by omega) oc hx
          · by_cases e : c = i
            · subst e
              rw [qi] at hx
              injection hx with hx
              omega
            · exact g2 hb c x (by omega) oc hx)
    [x0, x1, some (.ref k), some (atD o), x4, x5, some .non, x7] h ⟨none, x7, rfl, rfl, fun j hj => (by cases hj), fun _ c x ci => (by omega)⟩
  refine ⟨b, x7', f, fun j hj => ?_, fun hb c x oc hx => ?_⟩
  · obtain ⟨a1, v, a2, a3, a4⟩ := g1 j hj
    exact ⟨a1, v, a2, a3, fun c x oc hx => a4 c x (by rw [rngD_len]; exact (List.getElem?_eq_some_iff.mp hx).1) oc hx⟩
  · exact g2 hb c x (by rw [rngD_len]; exact (List.getElem?_eq_some_iff.mp hx).1) oc hx
theorem eq_longest {l : List Int} {o : Option Nat} {h : DH} {n : Nat} (hn : h[n]? = some (.lst (l.map D.int))) (hr : Rooms l) (hs : l.sum ≤ 1000000000) :
    ∃ g, F__law_longest [.ref n, atD o] h = .ok (.int (life l o)) (h ++ g) := by
  have s0 := sum_nonneg l hr.nn
  obtain ⟨T, hT⟩ : ∃ T : Nat, l.sum = (T : Int) := ⟨l.sum.toNat, by omega⟩
  have rg := rngS_nat (n := T) (h := h ++ [.lst (l.map D.int)]) (by omega)
  have lp := for_at (keep := fun _ => True) (gg := gN 5) (b := B__law_longest_2) (ds := rngD 0 T)
    (fun i σ h' => ∃ (m : List Int) (o' : Option Nat) (x5 x6 x7 : Option D) (k : Int), σ = [some (.ref n), some (atD o), some (.ref h.length), some (atD o'), some (.int k), x5, x6, x7] ∧ h' = h ++ [.lst (m.map D.int)] ∧ NonNeg m ∧ m ≠ [] ∧ m.length ≤ 100 ∧ m.sum = l.sum - i ∧ k + life m o' = life l o)
    (fun r => ∃ g, (r.next (dRet (dVar 4))).fin = .ok (.int (life l o)) (h ++ g))
    (fun σ h' ⟨m, o', x5, x6, x7, k, e, eh, nm, ne, ml, sm, ek⟩ => by
      subst e eh
      rw [rngD_len] at sm
      have := life_range (o := o') nm ne
      refine ⟨trivial, [.lst (m.map D.int)], ?_⟩
      have : k = life l o := by omega
      subst this
      simp -implicitDefEqProofs)
    (fun i d σ h' hd ⟨m, o', x5, x6, x7, k, e, eh, nm, ne, ml, sm, ek⟩ => by
      subst e eh
      refine ⟨trivial, _, rfl, ?_⟩
      obtain ⟨b, x7', f, g1, g2⟩ := look (l := m) (o := o') (h := h ++ [.lst (m.map D.int)]) (n := n) (k := h.length) (x0 := some (.ref n)) (x1 := some (atD o)) (x4 := some (.int k)) (x5 := some d) (x7 := x7) at_new
      have rg := rngS_nat (n := m.length) (h := h ++ [.lst (m.map D.int)]) (by omega)
      cases b with
      | none =>
        have z := life_none nm ne (g2 rfl)
        refine .inr (.inl ⟨.int (life l o), h ++ [.lst (m.map D.int)], ?_, [.lst (m.map D.int)], ?_⟩)
        · have : k = life l o := by omega
          subst this
          simp only [atD_n, atD_s] at f
          simp -implicitDefEqProofs [B__law_longest_2, len_at, rg, f]
        · simp -implicitDefEqProofs
      | some j =>
        obtain ⟨a1, v, a2, a3, a4⟩ := g1 j rfl
        have st := life_best nm a2 a3 a1 a4
        have jl := (List.getElem?_eq_some_iff.mp a2).1
        have q : L2.atI (m.map D.int) (j : Int) = some (.int v) := atI_n (by rw [List.getElem?_map, a2]; rfl)
        have pt := put_at (h := h ++ [.lst (m.map D.int)]) (n := h.length) (j := j) (v := .int (v - 1)) at_new (by rw [List.length_map]; exact jl)
        rw [← List.map_set, set_new] at pt
        refine .inl ⟨_, h ++ [.lst ((m.set j (v - 1)).map D.int)], .inl ?_, m.set j (v - 1), some j, some d, some (.int (j : Int)), x7', k + 1, rfl, rfl, fun y hy => ?_, fun e => ne (by simpa using e), by rw [List.length_set]; exact ml, by rw [sum_set m j v _ a2]; omega, by omega⟩
        · simp only [atD_n, atD_s] at f
          simp -implicitDefEqProofs [B__law_longest_2, len_at, rg, f, ix_at, q, pt, atD_s, -List.map_set]
        · rcases List.mem_or_eq_of_mem_set hy with hy | rfl
          · exact nm y hy
          · omega)
    [some (.ref n), some (atD o), some (.ref h.length), some (atD o), some (.int 0), none, none, none] (h ++ [.lst (l.map D.int)]) ⟨l, o, none, none, none, 0, rfl, rfl, hr.nn, hr.ne, hr.2.2, by omega, by omega⟩
  obtain ⟨g, e⟩ := lp
  refine ⟨g, ?_⟩
  have sm := sum_at (h := h ++ [.lst (l.map D.int)]) (at_old hn)
  rw [hT] at sm
  simp -implicitDefEqProofs [F__law_longest, list_at, hn, sm, rg, e]
theorem has__law_longest (A : All K mg) : Has P w K mg base 1 "_law_longest" ["_law_rooms", "_law_at"] F__law_longest := has_of A.e__law_longest fun f fd F => ok__law_longest A.T  F
/-! ### _law_best_first -/
noncomputable def B__law_best_first_1 : FS := (dIf (dAndT (dTest (dBin oNe (dVar 3) (dVar 1))) (dTest (dBin oGt (dBin oIx (dVar 0) (dVar 3)) (dC (D.int 0))))) (dSeq (dSet 4 (dBin oAdd (dBin oAdd (dSl (dVar 0) dNoPart (dPart (dVar 3))) (dLst (dCons (dBin oSub (dBin oIx (dVar 0) (dVar 3)) (dC (D.int 1))) dNil))) (dSl (dVar 0) (dPart (dBin oAdd (dVar 3) (dC (D.int 1)))) dNoPart))) (dSeq (dSet 5 (dCall F_lone_life (dCons (dVar 4) (dCons (dVar 3) dNil)))) (dSeq (dIf (dOrT (dNotT (dTru (dIs .int (dVar 5)))) (dTru (dIs .bl (dVar 5)))) (dRet (dC D.non)) dSkip) (dSet 2 (dCB bMax (dCons (dVar 2) (dCons (dBin oAdd (dC (D.int 1)) (dVar 5)) dNil))))))) dSkip)
noncomputable def F__law_best_first : Fn := dDef 2 6 (dSeq (dSet 2 (dC (D.int 0))) (dSeq (dFor (dRng (dCons (dCB bLen (dCons (dVar 0) dNil)) dNil)) (gN 3) B__law_best_first_1) (dRet (dVar 2))))
theorem ok__law_best_first (T : Txt K mg) (h_lone_life : Has P w K mg base 3 "lone_life" ["rooms", "at"] F_lone_life) {f : Addr} {fd : FuncData} (F : Fun K "_law_best_first" "_law_best_first" s__law_best_first f fd) : FnOk P w K mg base (L2.CX P w) 4 f fd ["_law_rooms", "_law_at"] (spD K mg F__law_best_first) := by
  refine fn_ok F sc__law_best_first (fun cdv A outer s H E hr => ?_)
  have nd := sc__law_best_first.nd
  have hp := passes_of (X := cxOf (L2.CX P w) P w K mg base ["_law_rooms", "_law_at", "_law_best", "_law_b", "_law_less", "_law_span"] "_law_best_first" (defScope s__law_best_first) f cdv A outer s H E) (K := fun e s'' => L2.CX P w outer H s E e s'') rfl
  have tk := takes_of (X := cxOf (L2.CX P w) P w K mg base ["_law_rooms", "_law_at", "_law_best", "_law_b", "_law_less", "_law_span"] "_law_best_first" (defScope s__law_best_first) f cdv A outer s H E) (E := E) rfl rfl rfl rfl
  exact (dss_cons (ds_set 2 nd de_int) (dss_cons (ds_for hp rfl (di_rng1 T.n_range (da_cons (de_callB call_len cs_len T.n_len (da_cons (de_var 0) da_nil)) da_nil)) (dg_name 3 nd) (dss_one (ds_if (PW.pt (dw_and (dt_cmp (op_neX hr.units) os_ne (de_var 3) (de_var 1)) (dw_and1 (dt_cmp op_gt os_ord (de_ix (de_var 0) (de_var 3)) de_int)))) (dss_cons (ds_set 4 nd (de_op op_addX os_add (de_op op_addX os_add (de_sl (de_var 0) do_none (do_some (de_var 3))) (de_lst (da_cons (de_op op_sub os_sub (de_ix (de_var 0) (de_var 3)) de_int) da_nil))) (de_sl (de_var 0) (do_some (de_op op_addX os_add (de_var 3) de_int)) do_none))) (dss_cons (ds_set 5 nd (de_has h_lone_life hr (by decide) tk (da_cons (de_var 4) (da_cons (de_var 3) da_nil)))) (dss_cons (ds_if (PW.pt (dw_or (dt_not (dt_tru (de_is .int (by decide) T.n_isinstance T.n_int (de_var 5)))) (dw_or1 (dt_tru (de_is .bl (by decide) T.n_isinstance T.n_bool (de_var 5)))))) (dss_one (ds_ret de_non)) dss_nil) (dss_one (ds_set 2 nd (de_callB (call_maxX rfl) cs_max T.n_max (da_cons (de_var 2) (da_cons (de_op op_addX os_add de_int (de_var 5)) da_nil)))))))) dss_nil))) (dss_one (ds_ret (de_var 2)))))
theorem fullest (l : List Int) (o : Option Nat) : (∃ (b : Nat) (v : Int), o ≠ some b ∧ l[b]? = some v ∧ 0 < v ∧ ∀ (c : Nat) (x : Int), o ≠ some c → l[c]? = some x → x ≤ v) ∨ (∀ (c : Nat) (x : Int), o ≠ some c → l[c]? = some x → x ≤ 0) := by
  obtain ⟨b, _, _, g1, g2⟩ := look (l := l) (o := o) (h := [.lst (l.map D.int)]) (n := 0) (k := 0) (x0 := none) (x1 := none) (x4 := none) (x5 := none) (x7 := none) rfl
  cases b with
  | none => exact .inr (g2 rfl)
  | some j =>
    obtain ⟨a, v, h⟩ := g1 j rfl
    exact .inl ⟨j, v, a, h⟩
theorem eq_best_first {l : List Int} {o : Option Nat} {h : DH} {n : Nat} (hn : h[n]? = some (.lst (l.map D.int))) (hr : Rooms l) :
    ∃ g, F__law_best_first [.ref n, atD o] h = .ok (.int (life l o)) (h ++ g) := by
  have rg := rngS_nat (n := l.length) (h := h) (by have := hr.2.2; omega)
  have nn := hr.nn
  have lr := life_range (o := o) nn hr.ne
  obtain ⟨σ', h', f, x3, x4, x5, best, g, rfl, rfl, b0, b1, b2⟩ := for_run (keep := fun _ => True) (gg := gN 3) (b := B__law_best_first_1) (ds := rngD 0 l.length)
    (fun i σ h' => ∃ (x3 x4 x5 : Option D) (best : Int) (g : DH), σ = [some (.ref n), some (atD o), some (.int best), x3, x4, x5] ∧ h' = h ++ g ∧ 0 ≤ best ∧ best ≤ life l o ∧ ∀ (c : Nat) (v : Int), c < i → o ≠ some c → l[c]? = some v → 0 < v → 1 + life (l.set c (v - 1)) (some c) ≤ best)
    (fun _ _ _ _ => trivial)
    (fun i d σ h' hd ⟨x3, x4, x5, best, g, e, eh, b0, b1, b2⟩ => by
      subst e eh
      obtain ⟨il, rfl⟩ := rngD_get hd
      have hg := at_old (g := g) hn
      have q : L2.atI (l.map D.int) (i : Int) = some (.int l[i]) := atI_n (by rw [List.getElem?_map, List.getElem?_eq_getElem il]; rfl)
      have qi : l[i]? = some l[i] := List.getElem?_eq_getElem il
      have ne : oNe (.int (i : Int)) (atD o) (h ++ g) = .ok (.bl (!decide (o = some i))) (h ++ g) := by
        cases o with
        | none => simp [atD]
        | some j =>
          have z : decide ((i : Int) = (j : Int)) = decide (j = i) := by rw [decide_eq_decide]; omega
          simp only [atD, oNe_int, Option.some.injEq]
          rw [z]
      refine ⟨_, rfl, ?_⟩
      by_cases oi : o = some i
      · refine ⟨[some (.ref n), some (atD o), some (.int best), some (.int (0 + (i : Int))), x4, x5], h ++ g, .inl ?_, _, _, _, best, g, rfl, rfl, b0, b1, fun c v ci oc hx hv => ?_⟩
        · subst oi
          simp -implicitDefEqProofs at ne
          simp -implicitDefEqProofs [B__law_best_first_1, ne]
        · have : c ≠ i := fun e => oc (by rw [e, oi])
          exact b2 c v (by omega) oc hx hv
      · have nx : oNe (.int (i : Int)) (atD o) (h ++ g) = .ok (.bl true) (h ++ g) := by rw [ne, decide_eq_false oi]; rfl
        by_cases pos : 0 < l[i]
        · have less : l.take i ++ [l[i] - 1] ++ l.drop (i + 1) = l.set i (l[i] - 1) := by
            rw [List.set_eq_take_append_cons_drop, if_pos il]
            simp
          have c1 : cutD (l.map D.int) none (some (i : Int)) = (l.take i).map D.int := by rw [cut_to, List.map_take]
          have c2 : cutD (l.map D.int) (some ((i : Int) + 1)) none = (l.drop (i + 1)).map D.int := by
            have := cut_from (ds := l.map D.int) (i + 1)
            rw [List.map_drop]
            exact this
          have st := life_step nn qi pos oi
          have rl : Rooms (l.set i (l[i] - 1)) := ⟨fun y hy => by
            rcases List.mem_or_eq_of_mem_set hy with hy | rfl
            · exact hr.1 y hy
            · have := hr.1 _ (List.mem_of_getElem? qi)
              omega, by rw [List.length_set]; exact hr.2.1, by rw [List.length_set]; exact hr.2.2⟩
          obtain ⟨h2, hh2⟩ : ∃ h2 : DH, h2 = h ++ g ++ [.lst ((l.take i).map D.int), .lst [.int (l[i] - 1)], .lst ((l.take i ++ [l[i] - 1]).map D.int), .lst ((l.drop (i + 1)).map D.int), .lst ((l.set i (l[i] - 1)).map D.int)] := ⟨_, rfl⟩
          have a2 : h2[(h ++ g).length + 4]? = some (.lst ((l.set i (l[i] - 1)).map D.int)) := by rw [hh2, hp_k]; rfl
          have ll := eq_lone_life (o := some i) a2 rl (fun j hj => by cases hj; rw [List.length_set]; exact il)
          rw [atD_s] at ll
          have l100 := hr.2.2
          obtain ⟨H, hH⟩ : ∃ H : DH, H = h ++ g := ⟨_, rfl⟩
          have e0 : (dBin oAdd (dBin oAdd (dSl (dVar 0) dNoPart (dPart (dVar 3))) (dLst (dCons (dBin oSub (dBin oIx (dVar 0) (dVar 3)) (dC (D.int 1))) dNil))) (dSl (dVar 0) (dPart (dBin oAdd (dVar 3) (dC (D.int 1)))) dNoPart)) [some (.ref n), some (atD o), some (.int best), some (.int (i : Int)), x4, x5] (h ++ g) = .ok (.ref ((h ++ g).length + 4)) h2 := by
            have m1 : (l.take i).length + 1 ≤ 16777216 := by rw [List.length_take]; omega
            have m2 : (l.take i).length + 1 + (l.drop (i + 1)).length ≤ 16777216 := by rw [List.length_take, List.length_drop]; omega
            have ad : ∀ (A B : List D) (h : DH) (a b : Nat), h[a]? = some (.lst A) → h[b]? = some (.lst B) → A.length + B.length ≤ 16777216 → oAdd (.ref a) (.ref b) h = .ok (.ref h.length) (h ++ [.lst (A ++ B)]) := fun A B h a b e1 e2 hl => oAdd_lst e1 e2 hl
            have e1 := ad ((l.take i).map D.int) [.int (l[i] - 1)] (H ++ [.lst ((l.take i).map D.int), .lst [.int (l[i] - 1)]]) H.length (H.length + 1) hp_0 (by rw [hp_k]; rfl) (by rw [List.length_map]; exact m1)
            have e2 := ad ((l.take i ++ [l[i] - 1]).map D.int) ((l.drop (i + 1)).map D.int) (H ++ [.lst ((l.take i).map D.int), .lst [.int (l[i] - 1)], .lst ((l.take i ++ [l[i] - 1]).map D.int), .lst ((l.drop (i + 1)).map D.int)]) (H.length + 2) (H.length + 3) (by rw [hp_k]; rfl) (by rw [hp_k]; rfl) (by rw [List.length_map, List.length_map, List.length_append, List.length_singleton]; exact m2)
            rw [← List.map_append, less] at e2
            rw [show (l.take i).map D.int ++ [D.int (l[i] - 1)] = (l.take i ++ [l[i] - 1]).map D.int by simp] at e1
            rw [← hH] at hg ⊢
            rw [hh2, ← hH]
            have go := fun G => at_old (g := G) hg
            generalize (l.take i).map D.int = A at *
            generalize (l.drop (i + 1)).map D.int = B at *
            generalize (l.take i ++ [l[i] - 1]).map D.int = C at *
            generalize (l.set i (l[i] - 1)).map D.int = Z at *
            simp only [List.append_assoc, List.cons_append, List.nil_append, List.length_append, List.length_cons, List.length_nil, Nat.zero_add] at e1 e2
            simp -implicitDefEqProofs [sl_at, ix_at, hg, go, c1, c2, q, e1, e2]
          have lf : life (l.set i (l[i] - 1)) (some i) = life (l.set i (l[i] - 1)) (some i) := rfl
          generalize hsp : life (l.set i (l[i] - 1)) (some i) = span at *
          refine ⟨[some (.ref n), some (atD o), some (.int (if 1 + span > best then 1 + span else best)), some (.int (0 + (i : Int))), some (.ref ((h ++ g).length + 4)), some (.int span)], h2, .inl ?_, _, _, _, _, g ++ [.lst ((l.take i).map D.int), .lst [.int (l[i] - 1)], .lst ((l.take i ++ [l[i] - 1]).map D.int), .lst ((l.drop (i + 1)).map D.int), .lst ((l.set i (l[i] - 1)).map D.int)], rfl, by rw [hh2, List.append_assoc], by split <;> omega, by split <;> omega, fun c v ci oc hx hv => ?_⟩
          · unfold B__law_best_first_1
            generalize (dBin oAdd (dBin oAdd (dSl (dVar 0) dNoPart (dPart (dVar 3))) (dLst (dCons (dBin oSub (dBin oIx (dVar 0) (dVar 3)) (dC (D.int 1))) dNil))) (dSl (dVar 0) (dPart (dBin oAdd (dVar 3) (dC (D.int 1)))) dNoPart)) = big at e0 ⊢
            simp -implicitDefEqProofs [nx, ix_at, hg, q, pos, e0, -List.length_append, ll]
          · by_cases e : c = i
            · subst e
              rw [qi] at hx
              injection hx with hx
              subst hx
              rw [hsp]
              split <;> omega
            · have := b2 c v (by omega) oc hx hv
              split <;> omega
        · refine ⟨[some (.ref n), some (atD o), some (.int best), some (.int (0 + (i : Int))), x4, x5], h ++ g, .inl ?_, _, _, _, best, g, rfl, rfl, b0, b1, fun c v ci oc hx hv => ?_⟩
          · simp -implicitDefEqProofs [B__law_best_first_1, nx, ix_at, hg, q, pos]
          · by_cases e : c = i
            · subst e
              rw [qi] at hx
              injection hx with hx
              omega
            · exact b2 c v (by omega) oc hx hv)
    [some (.ref n), some (atD o), some (.int 0), none, none, none] h ⟨none, none, none, 0, [], rfl, by simp, by omega, lr.1, fun c v ci => (by omega)⟩
  have eb : best = life l o := by
    rcases fullest l o with ⟨b, v, ob, hb, hv, gb⟩ | no
    · have st := life_best nn hb hv ob gb
      have := b2 b v (by rw [rngD_len]; exact (List.getElem?_eq_some_iff.mp hb).1) ob hb hv
      omega
    · have := life_none nn hr.ne no
      omega
  subst eb
  refine ⟨g, ?_⟩
  simp -implicitDefEqProofs [F__law_best_first, bLen_lst hn, rg, f]
theorem has__law_best_first (A : All K mg) : Has P w K mg base 4 "_law_best_first" ["_law_rooms", "_law_at"] F__law_best_first := has_of A.e__law_best_first fun f fd F => ok__law_best_first A.T (has_lone_life A) F
/-! ### law -/
noncomputable def C_law_1 : FE := (dCall F__law_digit (dCons (dVar 1) (dCons (dC (D.int 4)) dNil)))
noncomputable def F_law : Fn := dDef 1 12 (dSeq (dSet 1 (dLst (dCons (dCB bList (dCons (dVar 0) dNil)) (dCons (dC (D.int 0)) (dCons (dC (D.int 0)) dNil))))) (dSeq (dSet 2 (dBin oEq (dCall F__law_digit (dCons (dVar 1) (dCons (dC (D.int 3)) dNil))) (dC (D.int 0)))) (dSeq (dSet 3 (dCall F__law_digit (dCons (dVar 1) (dCons (dC (D.int 4)) dNil)))) (dSeq (dIf (dTru (dVar 2)) (dSeq (dSet 4 (dBin oAdd (dC (D.int 1)) (dCall F__law_digit (dCons (dVar 1) (dCons (dC (D.int 100)) dNil))))) (dSet 5 (dLc (dRng (dCons (dVar 4) dNil)) (gN 11) dYes C_law_1 [11]))) (dSet 5 (dCall F__law_great (dCons (dVar 1) dNil)))) (dSeq (dSet 6 (dC D.non)) (dSeq (dIf (dTest (dBin oEq (dVar 3) (dC (D.int 1)))) (dSet 6 (dCall F__law_digit (dCons (dVar 1) (dCons (dCB bLen (dCons (dVar 5) dNil)) dNil)))) (dIf (dTest (dBin oGt (dVar 3) (dC (D.int 1)))) (dSet 6 (dBM "list" mIndex (dVar 5) (dCons (dCB bMax (dCons (dVar 5) dNil)) dNil))) dSkip)) (dSeq (dSet 7 (dCB bList (dCons (dVar 5) dNil))) (dSeq (dSet 8 (dCall F_lone_life (dCons (dVar 5) (dCons (dVar 6) dNil)))) (dSeq (dIf (dTest (dBin oNe (dVar 5) (dVar 7))) (dRet (dC (D.bl false))) dSkip) (dSeq (dIf (dAndT (dTru (dVar 2)) (dAndT (dTest (dBin oLe (dCB bLen (dCons (dVar 5) dNil)) (dC (D.int 40)))) (dNotT (dTru (dCall F__law_is_life (dCons (dVar 8) (dCons (dCall F__law_longest (dCons (dVar 7) (dCons (dVar 6) dNil))) dNil))))))) (dRet (dC (D.bl false))) dSkip) (dSeq (dSet 9 (dBin oSub (dCB bSum (dCons (dVar 7) dNil)) (dCB bMax (dCons (dVar 7) dNil)))) (dSeq (dSet 10 (dCall F__law_best_first (dCons (dVar 7) (dCons (dVar 6) dNil)))) (dSeq (dIf (dOrT (dTest (dBin oIsN (dVar 10) (dC D.non))) (dNotT (dTru (dCall F__law_is_life (dCons (dVar 8) (dCons (dVar 10) dNil)))))) (dRet (dC (D.bl false))) dSkip) (dRet (dAndV (dBin oGe (dVar 8) (dC (D.int 0))) (dAndV (dBin oLe (dVar 8) (dCB bSum (dCons (dVar 7) dNil))) (dBin oLe (dVar 8) (dBin oAdd (dBin oMul (dC (D.int 2)) (dVar 9)) (dC (D.int 1))))))))))))))))))))
theorem ok_law (T : Txt K mg) (h__law_digit : Has P w K mg base 1 "_law_digit" ["_law_pool", "_law_many"] F__law_digit) (h_lone_life : Has P w K mg base 3 "lone_life" ["rooms", "at"] F_lone_life) (h__law_best_first : Has P w K mg base 4 "_law_best_first" ["_law_rooms", "_law_at"] F__law_best_first) (h__law_great : Has P w K mg base 3 "_law_great" ["_law_pool"] F__law_great) (h__law_is_life : Has P w K mg base 1 "_law_is_life" ["_law_found", "_law_due"] F__law_is_life) (h__law_longest : Has P w K mg base 1 "_law_longest" ["_law_rooms", "_law_at"] F__law_longest) {f : Addr} {fd : FuncData} (F : Fun K "law" "law" s_law f fd) : FnOk P w K mg base (L2.CX P w) 5 f fd ["_law_script"] (spD K mg F_law) := by
  refine fn_ok F sc_law (fun cdv A outer s H E hr => ?_)
  have nd := sc_law.nd
  have hp := passes_of (X := cxOf (L2.CX P w) P w K mg base ["_law_script", "_law_pool", "_law_small", "_law_where", "_law_many", "_law_rooms", "_law_at", "_law_kept", "_law_found", "_law_rest", "_law_due", "_law_k"] "law" (defScope s_law) f cdv A outer s H E) (K := fun e s'' => L2.CX P w outer H s E e s'') rfl
  have tk := takes_of (X := cxOf (L2.CX P w) P w K mg base ["_law_script", "_law_pool", "_law_small", "_law_where", "_law_many", "_law_rooms", "_law_at", "_law_kept", "_law_found", "_law_rest", "_law_due", "_law_k"] "law" (defScope s_law) f cdv A outer s H E) (E := E) rfl rfl rfl rfl
  exact (dss_cons (ds_set 1 nd (de_lst (da_cons (de_callTy call_list_of cs_list T.n_list (da_cons (de_var 0) da_nil)) (da_cons de_int (da_cons de_int da_nil))))) (dss_cons (ds_set 2 nd (de_cmp (op_eqX hr.units) os_eq (de_has h__law_digit hr (by decide) tk (da_cons (de_var 1) (da_cons de_int da_nil))) de_int)) (dss_cons (ds_set 3 nd (de_has h__law_digit hr (by decide) tk (da_cons (de_var 1) (da_cons de_int da_nil)))) (dss_cons (ds_if (dt_tru (de_var 2)) (dss_cons (ds_set 4 nd (de_op op_addX os_add de_int (de_has h__law_digit hr (by decide) tk (da_cons (de_var 1) (da_cons de_int da_nil))))) (dss_one (ds_setLc 5 rfl nd (sw_true rfl rfl rfl (by decide +kernel)) (di_rng1 T.n_range (da_cons (de_var 4) da_nil)) (blkOk_by (N := ["_law_script", "_law_pool", "_law_small", "_law_where", "_law_many", "_law_rooms", "_law_at", "_law_kept", "_law_found", "_law_rest", "_law_due", "_law_k"]) (sc := defScope s_law) (own := [("_law_k", 11)]) (by decide +kernel)) (fun _ _ _ _ _ => (dg_name 11 nd)) (fun _ _ _ _ _ => dts_nil) (fun _ _ _ _ _ => (de_has h__law_digit hr (by decide) takes0 (da_cons (de_var 1) (da_cons de_int da_nil))))))) (dss_one (ds_set 5 nd (de_has h__law_great hr (by decide) tk (da_cons (de_var 1) da_nil))))) (dss_cons (ds_set 6 nd de_non) (dss_cons (ds_if (dt_cmp (op_eqX hr.units) os_eq (de_var 3) de_int) (dss_one (ds_set 6 nd (de_has h__law_digit hr (by decide) tk (da_cons (de_var 1) (da_cons (de_callB call_len cs_len T.n_len (da_cons (de_var 5) da_nil)) da_nil))))) (dss_one (ds_if (dt_cmp op_gt os_ord (de_var 3) de_int) (dss_one (ds_set 6 nd (de_bm mt_index ms_index PySem.F.plainAttrs_list PySem.F.slot_list_index PySem.F.type_list_index (de_var 5) (da_cons (de_callB (call_maxX rfl) cs_max T.n_max (da_cons (de_var 5) da_nil)) da_nil)))) dss_nil))) (dss_cons (ds_set 7 nd (de_callTy call_list_of cs_list T.n_list (da_cons (de_var 5) da_nil))) (dss_cons (ds_set 8 nd (de_has h_lone_life hr (by decide) tk (da_cons (de_var 5) (da_cons (de_var 6) da_nil)))) (dss_cons (ds_if (dt_cmp (op_neX hr.units) os_ne (de_var 5) (de_var 7)) (dss_one (ds_ret de_bl)) dss_nil) (dss_cons (ds_if (PW.pt (dw_and (dt_tru (de_var 2)) (dw_and (dt_cmp op_le os_ord (de_callB call_len cs_len T.n_len (da_cons (de_var 5) da_nil)) de_int) (dw_and1 (dt_not (dt_tru (de_has h__law_is_life hr (by decide) tk (da_cons (de_var 8) (da_cons (de_has h__law_longest hr (by decide) tk (da_cons (de_var 7) (da_cons (de_var 6) da_nil))) da_nil))))))))) (dss_one (ds_ret de_bl)) dss_nil) (dss_cons (ds_set 9 nd (de_op op_sub os_sub (de_callB (cr_sum rfl) cs_sum T.n_sum (da_cons (de_var 7) da_nil)) (de_callB (call_maxX rfl) cs_max T.n_max (da_cons (de_var 7) da_nil)))) (dss_cons (ds_set 10 nd (de_has h__law_best_first hr (by decide) tk (da_cons (de_var 7) (da_cons (de_var 6) da_nil)))) (dss_cons (ds_if (PW.pt (dw_or (dt_cmp op_isX os_is (de_var 10) de_non) (dw_or1 (dt_not (dt_tru (de_has h__law_is_life hr (by decide) tk (da_cons (de_var 8) (da_cons (de_var 10) da_nil)))))))) (dss_one (ds_ret de_bl)) dss_nil) (dss_one (ds_ret (de_and (de_cmp op_ge os_ord (de_var 8) de_int) (de_and (de_cmp op_le os_ord (de_var 8) (de_callB (cr_sum rfl) cs_sum T.n_sum (da_cons (de_var 7) da_nil))) (de_one (de_cmp op_le os_ord (de_var 8) (de_op op_addX os_add (de_op op_mulX os_mul de_int (de_var 9)) de_int))))))))))))))))))))
theorem law_true (ns : List Int) (hns : ns.length ≤ 63) : ∃ dh, F_law [script ns] [] = .ok (.bl true) dh := by
  have p0 : Pool 0 [.lst (ns.map D.int), .lst [.ref 0, .int 0, .int 0]] 1 := ⟨0, 0, ns, by decide, rfl, rfl⟩
  obtain ⟨d0, h1, r0, e0, p1, _⟩ := eq_digit p0 3 (by decide)
  obtain ⟨w, h2, rw_, ew, p2, _⟩ := eq_digit p1 4 (by decide)
  -- the rooms
  obtain ⟨l, n, h3, x4, ok, sm, n1, n0, p3, a3, s1⟩ : ∃ (l : List Int) (n : Nat) (h3 : DH) (x4 : Option D), Rooms l ∧ (d0 = 0 → l.sum ≤ 300) ∧ n ≠ 1 ∧ n ≠ 0 ∧ Pool 0 h3 1 ∧ h3[n]? = some (.lst (l.map D.int)) ∧
      (dIf (dTru (dVar 2)) (dSeq (dSet 4 (dBin oAdd (dC (D.int 1)) (dCall F__law_digit (dCons (dVar 1) (dCons (dC (D.int 100)) dNil))))) (dSet 5 (dLc (dRng (dCons (dVar 4) dNil)) (gN 11) dYes C_law_1 [11]))) (dSet 5 (dCall F__law_great (dCons (dVar 1) dNil)))) [some (script ns), some (.ref 1), some (.bl (decide (d0 = 0))), some (.int w), none, none, none, none, none, none, none, none] h2 = .nx [some (script ns), some (.ref 1), some (.bl (decide (d0 = 0))), some (.int w), x4, some (.ref n), none, none, none, none, none, none] h3 := by
    by_cases z : d0 = 0
    · obtain ⟨d1, h3, r1, e1, p3, _⟩ := eq_digit p2 100 (by decide)
      obtain ⟨many, hm⟩ : ∃ m : Nat, 1 + d1 = (m : Int) := ⟨(1 + d1).toNat, by omega⟩
      have rg := rngS_nat (n := many) (h := h3) (by omega)
      have pl : 1 < h3.length := by obtain ⟨k, rest, cs, a, b, e⟩ := p3; exact lt_of_at b
      obtain ⟨acc, h4, f, al, l, la, lb, p4, a4⟩ := lc_inv (keep := fun _ => True) (gg := gN 11) (e := C_law_1) (σ := [some (script ns), some (.ref 1), some (.bl true), some (.int w), some (.int (many : Int)), none, none, none, none, none, none, none]) (n := h3.length) (ds := rngD 0 many)
        (fun i acc h => ∃ l : List Int, acc = l.map D.int ∧ (∀ y ∈ l, 0 ≤ y ∧ y ≤ 3) ∧ Pool 0 h 1 ∧ h[h3.length]? = some (.lst acc)) (fun _ _ _ _ => trivial) (by rw [rngD_len]; omega)
        (fun i d acc h hd ⟨l, la, lb, hp, ha⟩ => by
          obtain ⟨y, h', ry, ey, py, ky⟩ := eq_digit hp 4 (by decide)
          have ha' := ky.2 h3.length _ (by omega) ha
          refine ⟨_, .int y, h', rfl, ?_, ha', l ++ [y], by rw [la]; simp, fun z hz => ?_, py.put (by omega) (by omega), List.getElem?_set_self (lt_of_at ha')⟩
          · simp -implicitDefEqProofs [C_law_1, ey]
          · rcases List.mem_append.mp hz with hz | hz
            · exact lb z hz
            · rw [List.mem_singleton.mp hz]
              omega)
        (h3 ++ [.lst []]) ⟨[], rfl, fun y hy => (by cases hy), p3.app _, at_new⟩
      subst la
      rw [rngD_len, List.length_map] at al
      have bd : ∀ l : List Int, (∀ y ∈ l, 0 ≤ y ∧ y ≤ 3) → l.sum ≤ 3 * (l.length : Int) := fun l => by
        induction l with
        | nil => intro _; simp
        | cons a l ih =>
          intro h
          have h1 := ih fun y hy => h y (List.mem_cons_of_mem _ hy)
          have h2 := h a (List.mem_cons_self ..)
          simp
          omega
      have b3 := bd l lb
      refine ⟨l, h3.length, h4, some (.int (many : Int)), ⟨fun y hy => ?_, by omega, by omega⟩, fun _ => by omega, by omega, by omega, p4, a4, ?_⟩
      · have := lb y hy
        omega
      · simp -implicitDefEqProofs [z, e1, hm, rg, wipeD, List.set, f]
    · obtain ⟨l, n, h3, ok, e, p3, a3, n1, n0⟩ := eq_great p2
      refine ⟨l, n, h3, none, ok, fun h => absurd h z, n1, n0, p3, a3, ?_⟩
      simp -implicitDefEqProofs [z, e]
  -- the last one
  obtain ⟨o, h4, ho, a4, s2⟩ : ∃ (o : Option Nat) (h4 : DH), (∀ j, o = some j → j < l.length) ∧ h4[n]? = some (.lst (l.map D.int)) ∧
      (dIf (dTest (dBin oEq (dVar 3) (dC (D.int 1)))) (dSet 6 (dCall F__law_digit (dCons (dVar 1) (dCons (dCB bLen (dCons (dVar 5) dNil)) dNil)))) (dIf (dTest (dBin oGt (dVar 3) (dC (D.int 1)))) (dSet 6 (dBM "list" mIndex (dVar 5) (dCons (dCB bMax (dCons (dVar 5) dNil)) dNil))) dSkip)) [some (script ns), some (.ref 1), some (.bl (decide (d0 = 0))), some (.int w), x4, some (.ref n), some .non, none, none, none, none, none] h3 = .nx [some (script ns), some (.ref 1), some (.bl (decide (d0 = 0))), some (.int w), x4, some (.ref n), some (atD o), none, none, none, none, none] h4 := by
    have len := bLen_lst a3
    rw [List.length_map] at len
    by_cases w1 : w = 1
    · obtain ⟨d, h4, rd, ed, _, kd⟩ := eq_digit p3 (l.length : Int) ⟨by have := ok.2.1; omega, by have := ok.2.2; omega⟩
      obtain ⟨j, rfl⟩ : ∃ j : Nat, d = (j : Int) := ⟨d.toNat, by omega⟩
      refine ⟨some j, h4, fun i hi => by cases hi; omega, kd.2 n _ n1 a3, ?_⟩
      simp -implicitDefEqProofs [w1, len, ed, atD_s]
    · by_cases w2 : 1 < w
      · obtain ⟨c, hc⟩ := max_at_some ok.ne
        have fl : ∀ l : List Int, (l.map D.int).all flatD = true := fun l => by
          induction l with
          | nil => rfl
          | cons a l ih => rw [List.map_cons, List.all_cons, ih]; rfl
        have fi : ∃ k, (l.map D.int).findIdx? (fun d => eqF d (.int (maxL l))) = some k ∧ k < l.length := by
          cases e : (l.map D.int).findIdx? (fun d => eqF d (.int (maxL l))) with
          | none =>
            have := List.findIdx?_eq_none_iff.mp e (.int (maxL l)) (List.mem_map_of_mem (List.mem_of_getElem? hc))
            simp [eqF] at this
          | some k =>
            obtain ⟨hk, _⟩ := List.findIdx?_eq_some_iff_getElem.mp e
            exact ⟨k, rfl, by rw [List.length_map] at hk; exact hk⟩
        obtain ⟨k, hk, kl⟩ := fi
        have mx := max_at a3 ok.2.1
        have ix := index_at a3 (y := .int (maxL l)) ⟨rfl, fl l⟩ hk
        refine ⟨some k, h3, fun i hi => by cases hi; exact kl, a3, ?_⟩
        simp -implicitDefEqProofs [w1, w2, rcv_lst a3, mx, ix, atD_s]
      · refine ⟨none, h3, fun j hj => (by cases hj), a3, ?_⟩
        simp -implicitDefEqProofs [w1, w2, atD_n]
  -- what is found
  obtain ⟨h5, hh5⟩ : ∃ h5 : DH, h5 = h4 ++ [.lst (l.map D.int)] := ⟨_, rfl⟩
  have a5 : h5[n]? = some (.lst (l.map D.int)) := by rw [hh5]; exact at_old a4
  have k5 : h5[h4.length]? = some (.lst (l.map D.int)) := by rw [hh5]; exact at_new
  have bl := bList_lst a4
  rw [← hh5] at bl
  have f5 := eq_lone_life a5 ok ho
  have ne5 := oNe_lsts a5 k5
  rw [decide_eq_true rfl] at ne5
  have len5 := bLen_lst a5
  rw [List.length_map] at len5
  obtain ⟨h6, k6, s3⟩ : ∃ h6 : DH, h6[h4.length]? = some (.lst (l.map D.int)) ∧
      (dIf (dAndT (dTru (dVar 2)) (dAndT (dTest (dBin oLe (dCB bLen (dCons (dVar 5) dNil)) (dC (D.int 40)))) (dNotT (dTru (dCall F__law_is_life (dCons (dVar 8) (dCons (dCall F__law_longest (dCons (dVar 7) (dCons (dVar 6) dNil))) dNil))))))) (dRet (dC (D.bl false))) dSkip) [some (script ns), some (.ref 1), some (.bl (decide (d0 = 0))), some (.int w), x4, some (.ref n), some (atD o), some (.ref h4.length), some (.int (life l o)), none, none, none] h5 = .nx [some (script ns), some (.ref 1), some (.bl (decide (d0 = 0))), some (.int w), x4, some (.ref n), some (atD o), some (.ref h4.length), some (.int (life l o)), none, none, none] h6 := by
    by_cases z : d0 = 0
    · by_cases l40 : (l.length : Int) ≤ 40
      · obtain ⟨g, e⟩ := eq_longest (o := o) k5 ok (by have := sm z; omega)
        refine ⟨h5 ++ g, at_old k5, ?_⟩
        simp -implicitDefEqProofs [z, len5, l40, e, F__law_is_life]
      · refine ⟨h5, k5, ?_⟩
        simp -implicitDefEqProofs [z, len5, l40]
    · refine ⟨h5, k5, ?_⟩
      simp -implicitDefEqProofs [z]
  have sm6 := sum_at k6
  have mx6 := max_at k6 ok.2.1
  obtain ⟨g, e7⟩ := eq_best_first (o := o) k6 ok
  have sm7 := sum_at (at_old (g := g) k6)
  have lr := life_range (o := o) ok.nn ok.ne
  refine ⟨h6 ++ g, ?_⟩
  unfold F_law
  generalize (dIf (dTru (dVar 2)) (dSeq (dSet 4 (dBin oAdd (dC (D.int 1)) (dCall F__law_digit (dCons (dVar 1) (dCons (dC (D.int 100)) dNil))))) (dSet 5 (dLc (dRng (dCons (dVar 4) dNil)) (gN 11) dYes C_law_1 [11]))) (dSet 5 (dCall F__law_great (dCons (dVar 1) dNil)))) = A at s1 ⊢
  generalize (dIf (dTest (dBin oEq (dVar 3) (dC (D.int 1)))) (dSet 6 (dCall F__law_digit (dCons (dVar 1) (dCons (dCB bLen (dCons (dVar 5) dNil)) dNil)))) (dIf (dTest (dBin oGt (dVar 3) (dC (D.int 1)))) (dSet 6 (dBM "list" mIndex (dVar 5) (dCons (dCB bMax (dCons (dVar 5) dNil)) dNil))) dSkip)) = B at s2 ⊢
  generalize (dIf (dAndT (dTru (dVar 2)) (dAndT (dTest (dBin oLe (dCB bLen (dCons (dVar 5) dNil)) (dC (D.int 40)))) (dNotT (dTru (dCall F__law_is_life (dCons (dVar 8) (dCons (dCall F__law_longest (dCons (dVar 7) (dCons (dVar 6) dNil))) dNil))))))) (dRet (dC (D.bl false))) dSkip) = C at s3 ⊢
  simp only [script] at s1 s2 s3
  simp -implicitDefEqProofs [script, e0, ew, s1, s2, bl, f5, ne5, s3, sm6, mx6, e7, oMul_l, F__law_is_life, sm7, lr]

/-! ### the end -/
theorem law_fn (A : All K mg) {f : Addr} {fd : FuncData} (F : Fun K "law" "law" s_law f fd) : FnOk P w K mg base (L2.CX P w) 5 f fd ["_law_script"] (spLaw K) := (ok_law A.T (has__law_digit A) (has_lone_life A) (has__law_best_first A) (has__law_great A) (has__law_is_life A) (has__law_longest A) F).imp (law_imp law_true)
theorem all_mk {K : PySem.W.Frag} {mg : Str → Option Value} {h : Heap} {fa : Addr} (X : K.In h) (G : h.Ns mainGlobals mg) (hfa : mg "law" = some (.ref fa))
    {f0 : Addr} {od0 an0 : Option Addr} {sl0 : Array (Option Value)} {oc0 kV0 dc0 pm0 cd0 ct0 : Value}
    {f1 : Addr} {od1 an1 : Option Addr} {sl1 : Array (Option Value)} {oc1 kV1 dc1 pm1 cd1 ct1 : Value}
    {f2 : Addr} {od2 an2 : Option Addr} {sl2 : Array (Option Value)} {oc2 kV2 dc2 pm2 cd2 ct2 : Value}
    {f3 : Addr} {od3 an3 : Option Addr} {sl3 : Array (Option Value)} {oc3 kV3 dc3 pm3 cd3 ct3 : Value}
    {f4 : Addr} {od4 an4 : Option Addr} {sl4 : Array (Option Value)} {oc4 kV4 dc4 pm4 cd4 ct4 : Value}
    {f5 : Addr} {od5 an5 : Option Addr} {sl5 : Array (Option Value)} {oc5 kV5 dc5 pm5 cd5 ct5 : Value}
    {f6 : Addr} {od6 an6 : Option Addr} {sl6 : Array (Option Value)} {oc6 kV6 dc6 pm6 cd6 ct6 : Value}
    {f7 : Addr} {od7 an7 : Option Addr} {sl7 : Array (Option Value)} {oc7 kV7 dc7 pm7 cd7 ct7 : Value}
    {f8 : Addr} {od8 an8 : Option Addr} {sl8 : Array (Option Value)} {oc8 kV8 dc8 pm8 cd8 ct8 : Value}
    {f9 : Addr} {od9 an9 : Option Addr} {sl9 : Array (Option Value)} {oc9 kV9 dc9 pm9 cd9 ct9 : Value}
    {t_MOST_ROOM : Tok}
    {t_MOST_ROOMS : Tok}
    (a0 : PySem.W.nsIn K mainGlobals "is_integer" = some (some (.ref f0))) (l0 : K.lookup f0 = some ⟨oc0, od0, .func (PySem.W.fnOf "is_integer" "is_integer" (defArgs s_is_integer) (defBody s_is_integer) (defScope s_is_integer) .none kV0 dc0 pm0 an0 cd0 ct0), sl0⟩) (c0 : PySem.W.codeIn K cd0 "is_integer" = true) (k0 : PySem.W.keepIn K (.ref f0) = true)
    (a1 : PySem.W.nsIn K mainGlobals "in_range" = some (some (.ref f1))) (l1 : K.lookup f1 = some ⟨oc1, od1, .func (PySem.W.fnOf "in_range" "in_range" (defArgs s_in_range) (defBody s_in_range) (defScope s_in_range) .none kV1 dc1 pm1 an1 cd1 ct1), sl1⟩) (c1 : PySem.W.codeIn K cd1 "in_range" = true) (k1 : PySem.W.keepIn K (.ref f1) = true)
    (a2 : PySem.W.nsIn K mainGlobals "lone_life" = some (some (.ref f2))) (l2 : K.lookup f2 = some ⟨oc2, od2, .func (PySem.W.fnOf "lone_life" "lone_life" (defArgs s_lone_life) (defBody s_lone_life) (defScope s_lone_life) .none kV2 dc2 pm2 an2 cd2 ct2), sl2⟩) (c2 : PySem.W.codeIn K cd2 "lone_life" = true) (k2 : PySem.W.keepIn K (.ref f2) = true)
    (a3 : PySem.W.nsIn K mainGlobals "_law_digit" = some (some (.ref f3))) (l3 : K.lookup f3 = some ⟨oc3, od3, .func (PySem.W.fnOf "_law_digit" "_law_digit" (defArgs s__law_digit) (defBody s__law_digit) (defScope s__law_digit) .none kV3 dc3 pm3 an3 cd3 ct3), sl3⟩) (c3 : PySem.W.codeIn K cd3 "_law_digit" = true) (k3 : PySem.W.keepIn K (.ref f3) = true)
    (a4 : PySem.W.nsIn K mainGlobals "_law_is_life" = some (some (.ref f4))) (l4 : K.lookup f4 = some ⟨oc4, od4, .func (PySem.W.fnOf "_law_is_life" "_law_is_life" (defArgs s__law_is_life) (defBody s__law_is_life) (defScope s__law_is_life) .none kV4 dc4 pm4 an4 cd4 ct4), sl4⟩) (c4 : PySem.W.codeIn K cd4 "_law_is_life" = true) (k4 : PySem.W.keepIn K (.ref f4) = true)
    (a5 : PySem.W.nsIn K mainGlobals "_law_room" = some (some (.ref f5))) (l5 : K.lookup f5 = some ⟨oc5, od5, .func (PySem.W.fnOf "_law_room" "_law_room" (defArgs s__law_room) (defBody s__law_room) (defScope s__law_room) .none kV5 dc5 pm5 an5 cd5 ct5), sl5⟩) (c5 : PySem.W.codeIn K cd5 "_law_room" = true) (k5 : PySem.W.keepIn K (.ref f5) = true)
    (a6 : PySem.W.nsIn K mainGlobals "_law_great" = some (some (.ref f6))) (l6 : K.lookup f6 = some ⟨oc6, od6, .func (PySem.W.fnOf "_law_great" "_law_great" (defArgs s__law_great) (defBody s__law_great) (defScope s__law_great) .none kV6 dc6 pm6 an6 cd6 ct6), sl6⟩) (c6 : PySem.W.codeIn K cd6 "_law_great" = true) (k6 : PySem.W.keepIn K (.ref f6) = true)
    (a7 : PySem.W.nsIn K mainGlobals "_law_longest" = some (some (.ref f7))) (l7 : K.lookup f7 = some ⟨oc7, od7, .func (PySem.W.fnOf "_law_longest" "_law_longest" (defArgs s__law_longest) (defBody s__law_longest) (defScope s__law_longest) .none kV7 dc7 pm7 an7 cd7 ct7), sl7⟩) (c7 : PySem.W.codeIn K cd7 "_law_longest" = true) (k7 : PySem.W.keepIn K (.ref f7) = true)
    (a8 : PySem.W.nsIn K mainGlobals "_law_best_first" = some (some (.ref f8))) (l8 : K.lookup f8 = some ⟨oc8, od8, .func (PySem.W.fnOf "_law_best_first" "_law_best_first" (defArgs s__law_best_first) (defBody s__law_best_first) (defScope s__law_best_first) .none kV8 dc8 pm8 an8 cd8 ct8), sl8⟩) (c8 : PySem.W.codeIn K cd8 "_law_best_first" = true) (k8 : PySem.W.keepIn K (.ref f8) = true)
    (a9 : PySem.W.nsIn K mainGlobals "law" = some (some (.ref f9))) (l9 : K.lookup f9 = some ⟨oc9, od9, .func (PySem.W.fnOf "law" "law" (defArgs s_law) (defBody s_law) (defScope s_law) .none kV9 dc9 pm9 an9 cd9 ct9), sl9⟩) (c9 : PySem.W.codeIn K cd9 "law" = true) (k9 : PySem.W.keepIn K (.ref f9) = true)
    (z_bool : PySem.W.nsIn K mainGlobals "bool" = some none)
    (z_int : PySem.W.nsIn K mainGlobals "int" = some none)
    (z_isinstance : PySem.W.nsIn K mainGlobals "isinstance" = some none)
    (z_len : PySem.W.nsIn K mainGlobals "len" = some none)
    (z_list : PySem.W.nsIn K mainGlobals "list" = some none)
    (z_max : PySem.W.nsIn K mainGlobals "max" = some none)
    (z_min : PySem.W.nsIn K mainGlobals "min" = some none)
    (z_range : PySem.W.nsIn K mainGlobals "range" = some none)
    (z_sum : PySem.W.nsIn K mainGlobals "sum" = some none)
    (q_MOST_ROOM : PySem.W.nsIn K mainGlobals "MOST_ROOM" = some (some (.int 1000000000 t_MOST_ROOM)))
    (q_MOST_ROOMS : PySem.W.nsIn K mainGlobals "MOST_ROOMS" = some (some (.int 100 t_MOST_ROOMS))) :
    ∃ fd : FuncData, (∀ (s : Shared) (v : Value), BindsTo s fd ⟨[v], []⟩ [("_law_script", v)]) ∧ ∀ (P : Program) (w : World) (base : Heap), FnOk P w K mg base (L2.CX P w) 5 fa fd ["_law_script"] (spLaw K) := by
  have e := hfa.symm.trans (PySem.W.mg_of X G a9)
  cases e
  have F0 := fun_mk (st := s_is_integer) l0 c0 k0
  have E0 : Here K mg "is_integer" s_is_integer ["thing"] := ⟨_, _, F0, PySem.W.mg_of X G a0, F0.binds (ps := ["thing"]) fun _ _ _ _ _ _ us hl => match us, hl with | [_], _ => rfl⟩
  have F1 := fun_mk (st := s_in_range) l1 c1 k1
  have E1 : Here K mg "in_range" s_in_range ["thing", "low", "high"] := ⟨_, _, F1, PySem.W.mg_of X G a1, F1.binds (ps := ["thing", "low", "high"]) fun _ _ _ _ _ _ us hl => match us, hl with | [_, _, _], _ => rfl⟩
  have F2 := fun_mk (st := s_lone_life) l2 c2 k2
  have E2 : Here K mg "lone_life" s_lone_life ["rooms", "at"] := ⟨_, _, F2, PySem.W.mg_of X G a2, F2.binds (ps := ["rooms", "at"]) fun _ _ _ _ _ _ us hl => match us, hl with | [_, _], _ => rfl⟩
  have F3 := fun_mk (st := s__law_digit) l3 c3 k3
  have E3 : Here K mg "_law_digit" s__law_digit ["_law_pool", "_law_many"] := ⟨_, _, F3, PySem.W.mg_of X G a3, F3.binds (ps := ["_law_pool", "_law_many"]) fun _ _ _ _ _ _ us hl => match us, hl with | [_, _], _ => rfl⟩
  have F4 := fun_mk (st := s__law_is_life) l4 c4 k4
  have E4 : Here K mg "_law_is_life" s__law_is_life ["_law_found", "_law_due"] := ⟨_, _, F4, PySem.W.mg_of X G a4, F4.binds (ps := ["_law_found", "_law_due"]) fun _ _ _ _ _ _ us hl => match us, hl with | [_, _], _ => rfl⟩
  have F5 := fun_mk (st := s__law_room) l5 c5 k5
  have E5 : Here K mg "_law_room" s__law_room ["_law_pool", "_law_kind"] := ⟨_, _, F5, PySem.W.mg_of X G a5, F5.binds (ps := ["_law_pool", "_law_kind"]) fun _ _ _ _ _ _ us hl => match us, hl with | [_, _], _ => rfl⟩
  have F6 := fun_mk (st := s__law_great) l6 c6 k6
  have E6 : Here K mg "_law_great" s__law_great ["_law_pool"] := ⟨_, _, F6, PySem.W.mg_of X G a6, F6.binds (ps := ["_law_pool"]) fun _ _ _ _ _ _ us hl => match us, hl with | [_], _ => rfl⟩
  have F7 := fun_mk (st := s__law_longest) l7 c7 k7
  have E7 : Here K mg "_law_longest" s__law_longest ["_law_rooms", "_law_at"] := ⟨_, _, F7, PySem.W.mg_of X G a7, F7.binds (ps := ["_law_rooms", "_law_at"]) fun _ _ _ _ _ _ us hl => match us, hl with | [_, _], _ => rfl⟩
  have F8 := fun_mk (st := s__law_best_first) l8 c8 k8
  have E8 : Here K mg "_law_best_first" s__law_best_first ["_law_rooms", "_law_at"] := ⟨_, _, F8, PySem.W.mg_of X G a8, F8.binds (ps := ["_law_rooms", "_law_at"]) fun _ _ _ _ _ _ us hl => match us, hl with | [_, _], _ => rfl⟩
  have F9 := fun_mk (st := s_law) l9 c9 k9
  have E9 : Here K mg "law" s_law ["_law_script"] := ⟨_, _, F9, PySem.W.mg_of X G a9, F9.binds (ps := ["_law_script"]) fun _ _ _ _ _ _ us hl => match us, hl with | [_], _ => rfl⟩
  have A : All K mg := ⟨⟨PySem.W.mg_none_of X G z_bool, PySem.W.mg_none_of X G z_int, PySem.W.mg_none_of X G z_isinstance, PySem.W.mg_none_of X G z_len, PySem.W.mg_none_of X G z_list, PySem.W.mg_none_of X G z_max, PySem.W.mg_none_of X G z_min, PySem.W.mg_none_of X G z_range, PySem.W.mg_none_of X G z_sum, ⟨_, PySem.W.mg_of X G q_MOST_ROOM⟩, ⟨_, PySem.W.mg_of X G q_MOST_ROOMS⟩⟩, E0, E1, E2, E3, E4, E5, E6, E7, E8, E9⟩
  exact ⟨_, fun s v => .of_eq rfl, fun P w base => law_fn A F9⟩
end
end law_k48
open PySem PySem.W PyProof.Rows
set_option maxHeartbeats 0 in
theorem PySem.Challenge.cw_spentblocks_k48_whole_lone_life_by_first_holds : PySem.Challenge.rw_spentblocks_k48_whole_lone_life_by_first.Holds := by
  w_on; o_law; k_head; (case hw => w_witness2)
  k_fill
  refine L2.walk_of (l := PySem.Challenge.rw_spentblocks_k48_whole_lone_life_by_first) (n := 63) (k := 5) (x := "_law_script") (CX := fun w => L2.CX PySem.Challenge.rw_spentblocks_k48_whole_lone_life_by_first.prog w) (sp := fun w => DL.spLaw _) rfl (by decide) rfl ⟨rfl, by decide, by decide⟩ (fun w h Y => PySem.W.kIn_of Y) ?F (fun _ _ a ns hl ho hS => ⟨a, ns, rfl, DL.rol_only ho hS, hl, ho, fun _ => rfl⟩) (fun _ _ _ _ _ ⟨_, _, _, _, _, _, _, _, _, _, _, _, h⟩ => h)
  case F =>
    intro w mg fa h KX G hmg
    refine' Exists.imp (fun fd hh => ⟨hh.1, fun base _ _ => hh.2 _ w base⟩) (law_k48.all_mk KX G hmg ?a0 ?l0 ?c0 ?k0 ?a1 ?l1 ?c1 ?k1 ?a2 ?l2 ?c2 ?k2 ?a3 ?l3 ?c3 ?k3 ?a4 ?l4 ?c4 ?k4 ?a5 ?l5 ?c5 ?k5 ?a6 ?l6 ?c6 ?k6 ?a7 ?l7 ?c7 ?k7 ?a8 ?l8 ?c8 ?k8 ?a9 ?l9 ?c9 ?k9 ?z_bool ?z_int ?z_isinstance ?z_len ?z_list ?z_max ?z_min ?z_range ?z_sum ?q_MOST_ROOM ?q_MOST_ROOMS)
    (case a0 => k_is); (case l0 => k_is); (case c0 => k_is); (case k0 => k_is); (case a1 => k_is); (case l1 => k_is); (case c1 => k_is); (case k1 => k_is); (case a2 => k_is); (case l2 => k_is); (case c2 => k_is); (case k2 => k_is)
    (case a3 => k_is); (case l3 => k_is); (case c3 => k_is); (case k3 => k_is); (case a4 => k_is); (case l4 => k_is); (case c4 => k_is); (case k4 => k_is); (case a5 => k_is); (case l5 => k_is); (case c5 => k_is); (case k5 => k_is)
    (case a6 => k_is); (case l6 => k_is); (case c6 => k_is); (case k6 => k_is); (case a7 => k_is); (case l7 => k_is); (case c7 => k_is); (case k7 => k_is); (case a8 => k_is); (case l8 => k_is); (case c8 => k_is); (case k8 => k_is)
    (case a9 => k_is); (case l9 => k_is); (case c9 => k_is); (case k9 => k_is); (case z_bool => k_is); (case z_int => k_is); (case z_isinstance => k_is); (case z_len => k_is); (case z_list => k_is); (case z_max => k_is); (case z_min => k_is); (case z_range => k_is)
    (case z_sum => k_is); (case q_MOST_ROOM => k_is); (case q_MOST_ROOMS => k_is)
