import PyProof.Rows.All
import Wide.All
import OpenK.AllK
import Wide.FinOn
import HandS.ForMost
import HandS.ForExc
import HandS.Wide
import HandS.Flow
import HandS.Zip
import HandS.Walk
import HandS.Head0
import HandS.Head1
import HandS.Head2
import HandS.HeadEnd
import HandS.HeadHook1
import HandS.HeadHook2
import KE.SortData
import KE.DataMinMax
import HandS.Deep
import HandS.TupAny
import HandS.Style
import HandS.Strs
import HandS.TupSets
import HandS.IsInst
import HandS.Conv
import HandS.Codes
import PySem.Challenge.RW_ringcover_k48_ties_counted
set_option Elab.async false
set_option linter.all false
set_option maxRecDepth 100000
set_option maxHeartbeats 8000000
namespace G
open PySem PySem.Spec PyProof.Rows L2

/-- a value: what never changes is a tree (a tuple; a list that nobody writes), what changes is a place -/
inductive D where
  | non | bl (b : Bool) | int (i : Int) | str (s : Str) | tup (xs : List D) | cl (xs : List D) | ref (a : Addr)
  deriving Inhabited

/-- what stands at a place -/
inductive Cell where
  | lst (xs : List D)
  | dK (kvs : List (Key × D))
  | dT (kvs : List (List Key × D))
  | ins (C : Addr) (fs : List (Str × D))
abbrev Sto := Addr → Option Cell
def sup (S : Sto) (a : Addr) (c : Cell) : Sto := fun b => if b = a then some c else S b
theorem sup_same {S : Sto} {a : Addr} {c : Cell} : sup S a c a = some c := if_pos rfl
theorem sup_ne {S : Sto} {a b : Addr} {c : Cell} (h : b ≠ a) : sup S a c b = S b := if_neg h
theorem sup_sup {S : Sto} {a : Addr} {c e : Cell} : sup (sup S a c) a e = sup S a e := by
  funext b; unfold sup; split <;> rfl
theorem sto_ne {S : Sto} {a b : Addr} {c : Cell} (h : S a = some c) (h' : S b = none) : a ≠ b := fun e => by
  subst e; rw [h] at h'; cases h'

abbrev Rho := List (Option D)
abbrev QE := D → Sto → Prop
abbrev DSp := List D → Sto → QE → Prop

/-- the size that a list may have: below the model's line -/
abbrev szL : Nat := 16777216
theorem szL_eq : sizeLine = szL := sizeLine_eq

/-- a list that nobody writes -/
def FzL (K : PySem.W.Frag) (H : Hp) (a : Addr) (xs : List V) : Prop :=
  (∃ o, H a = some (.frz o (.lst xs))) ∨
    ∃ (o : Obj) (its : Array Value) (n : Nat), K.lookup a = some o ∧ o.cls = .type "list" ∧ o.dict = none ∧ o.data = .seq its n ∧ its.size ≤ sizeLine ∧ Vals xs its.toList
theorem FzL.sq {K : PySem.W.Frag} {H : Hp} {a : Addr} {xs : List V} (h : FzL K H a xs) : SqL K H a xs := by
  rcases h with h | h
  · exact .inl (.inr h)
  · exact .inr h

/-- a tuple whose object is known, without a dict of its own -/
def TupN (K : PySem.W.Frag) (H : Hp) (a : Addr) (xs : List V) : Prop :=
  (∃ o, H a = some (.frz o (.tup xs)) ∧ o.dict = none) ∨
    ∃ (o : Obj) (its : Array Value) (n : Nat), K.lookup a = some o ∧ o.cls = .type "tuple" ∧ o.dict = none ∧ o.data = .seq its n ∧ its.size ≤ sizeLine ∧ Vals xs its.toList
theorem TupN.sq {K : PySem.W.Frag} {H : Hp} {a : Addr} {xs : List V} (h : TupN K H a xs) : SqT K H a xs := by
  rcases h with ⟨o, h, _⟩ | ⟨o, its, n, h1, h2, _, h3, h4, h5⟩
  · exact .inl (.inr ⟨o, h⟩)
  · exact .inr ⟨o, its, n, h1, h2, h3, h4, h5⟩

mutual
/-- v stands for d in H -/
def RepV (K : PySem.W.Frag) (H : Hp) : D → V → Prop
  | .non, v => v = .non
  | .bl b, v => v = .bl b
  | .int i, v => v = .int i
  | .str s, v => v = .str s
  | .ref a, v => v = .ref a
  | .tup ds, v => ds.length ≤ szL ∧ ∃ a vs, v = .ref a ∧ TupN K H a vs ∧ RepVs K H ds vs
  | .cl ds, v => ds.length ≤ szL ∧ ∃ a vs, v = .ref a ∧ FzL K H a vs ∧ RepVs K H ds vs
def RepVs (K : PySem.W.Frag) (H : Hp) : List D → List V → Prop
  | [], vs => vs = []
  | d :: ds, vs => ∃ v r, vs = v :: r ∧ RepV K H d v ∧ RepVs K H ds r
end

def RepC (K : PySem.W.Frag) (H : Hp) (a : Addr) : Cell → Prop
  | .lst ds => ds.length ≤ szL ∧ ∃ vs, H a = some (.lst vs) ∧ RepVs K H ds vs
  | .dK kvs => ∃ xs, H a = some (.dK xs) ∧ xs.map (·.1) = kvs.map (·.1) ∧ RepVs K H (kvs.map (·.2)) (xs.map (·.2))
  | .dT kvs => ∃ xs, H a = some (.dT xs) ∧ xs.map (·.1) = kvs.map (·.1) ∧ RepVs K H (kvs.map (·.2)) (xs.map (·.2))
  | .ins C fs => ∃ dx xs, H a = some (.ins C dx xs) ∧ xs.map (·.1) = fs.map (·.1) ∧ RepVs K H (fs.map (·.2)) (xs.map (·.2))

def RepS (K : PySem.W.Frag) (S : Sto) (H : Hp) : Prop := ∀ a c, S a = some c → RepC K H a c
/-- what is not in the store stays, and stays out of it -/
structure Ext (H : Hp) (S : Sto) (H' : Hp) (S' : Sto) : Prop where
  keep : ∀ a o, H a = some o → S a = none → H' a = some o ∧ S' a = none
theorem Ext.refl {H : Hp} {S : Sto} : Ext H S H S := ⟨fun _ _ h n => ⟨h, n⟩⟩
theorem Ext.trans {H H1 H2 : Hp} {S S1 S2 : Sto} (a : Ext H S H1 S1) (b : Ext H1 S1 H2 S2) : Ext H S H2 S2 :=
  ⟨fun c o h n => let ⟨h1, n1⟩ := a.keep c o h n; b.keep c o h1 n1⟩

/-- tuples and what is locked stay -/
structure TX (H H' : Hp) : Prop where
  tup : ∀ a xs, H a = some (.tup xs) → H' a = some (.tup xs)
  frz : ∀ a o u, H a = some (.frz o u) → H' a = some (.frz o u)
theorem TX.refl {H : Hp} : TX H H := ⟨fun _ _ h => h, fun _ _ _ h => h⟩
theorem TX.trans {H H1 H2 : Hp} (a : TX H H1) (b : TX H1 H2) : TX H H2 := ⟨fun c xs h => b.tup _ _ (a.tup c xs h), fun c o u h => b.frz _ _ _ (a.frz c o u h)⟩
theorem RepC.not_tup {K : PySem.W.Frag} {H : Hp} {a : Addr} {c : Cell} (h : RepC K H a c) : (∀ xs, H a ≠ some (.tup xs)) ∧ (∀ o u, H a ≠ some (.frz o u)) ∧ H a ≠ none := by
  cases c with
  | lst ds => obtain ⟨_, vs, e, _⟩ := h; rw [e]; exact ⟨fun _ => nofun, fun _ _ => nofun, nofun⟩
  | dK kvs => obtain ⟨vs, e, _⟩ := h; rw [e]; exact ⟨fun _ => nofun, fun _ _ => nofun, nofun⟩
  | dT kvs => obtain ⟨vs, e, _⟩ := h; rw [e]; exact ⟨fun _ => nofun, fun _ _ => nofun, nofun⟩
  | ins C fs => obtain ⟨dx, vs, e, _⟩ := h; rw [e]; exact ⟨fun _ => nofun, fun _ _ => nofun, nofun⟩
section
variable {K : PySem.W.Frag} {H H' : Hp} {S S' : Sto}
theorem RepS.none_of (h : RepS K S H) {a : Addr} (n : H a = none) : S a = none := by
  cases e : S a with
  | none => rfl
  | some c => exact absurd n (h a c e).not_tup.2.2
theorem RepS.tup (h : RepS K S H) {a : Addr} {xs : List V} (n : H a = some (.tup xs)) : S a = none := by
  cases e : S a with
  | none => rfl
  | some c => exact absurd n ((h a c e).not_tup.1 xs)
theorem RepS.frz (h : RepS K S H) {a : Addr} {o : Obj} {u : HO} (n : H a = some (.frz o u)) : S a = none := by
  cases e : S a with
  | none => rfl
  | some c => exact absurd n ((h a c e).not_tup.2.1 o u)
theorem Ext.tx (x : Ext H S H' S') (h : RepS K S H) : TX H H' :=
  ⟨fun a xs e => (x.keep a _ e (h.tup e)).1, fun a o u e => (x.keep a _ e (h.frz e)).1⟩

theorem TX.sqT (x : TX H H') {a : Addr} {xs : List V} (h : SqT K H a xs) : SqT K H' a xs := by
  rcases h with (h | ⟨o, h⟩) | h
  · exact .inl (.inl (x.tup _ _ h))
  · exact .inl (.inr ⟨o, x.frz _ _ _ h⟩)
  · exact .inr h
theorem TX.tupN (x : TX H H') {a : Addr} {xs : List V} (h : TupN K H a xs) : TupN K H' a xs := by
  rcases h with ⟨o, h, d⟩ | h
  · exact .inl ⟨o, x.frz _ _ _ h, d⟩
  · exact .inr h
theorem TX.fzL (x : TX H H') {a : Addr} {xs : List V} (h : FzL K H a xs) : FzL K H' a xs := by
  rcases h with ⟨o, h⟩ | h
  · exact .inl ⟨o, x.frz _ _ _ h⟩
  · exact .inr h
mutual
theorem RepV.mono (x : TX H H') : ∀ (d : D) (v : V), RepV K H d v → RepV K H' d v
  | .non, _, h => h
  | .bl _, _, h => h
  | .int _, _, h => h
  | .str _, _, h => h
  | .ref _, _, h => h
  | .tup ds, v, h => by
    unfold RepV at h ⊢
    obtain ⟨z, a, vs, e, q, r⟩ := h
    exact ⟨z, a, vs, e, x.tupN q, RepVs.mono x ds vs r⟩
  | .cl ds, v, h => by
    unfold RepV at h ⊢
    obtain ⟨z, a, vs, e, q, r⟩ := h
    exact ⟨z, a, vs, e, x.fzL q, RepVs.mono x ds vs r⟩
theorem RepVs.mono (x : TX H H') : ∀ (ds : List D) (vs : List V), RepVs K H ds vs → RepVs K H' ds vs
  | [], _, h => h
  | d :: ds, vs, h => by
    unfold RepVs at h ⊢
    obtain ⟨v, r, e, p, q⟩ := h
    exact ⟨v, r, e, RepV.mono x d v p, RepVs.mono x ds r q⟩
end
theorem RepVs.nil : RepVs K H [] [] := by unfold RepVs; rfl
theorem RepVs.cons {d : D} {ds : List D} {v : V} {vs : List V} (h : RepV K H d v) (r : RepVs K H ds vs) : RepVs K H (d :: ds) (v :: vs) := by
  unfold RepVs; exact ⟨v, vs, rfl, h, r⟩
theorem RepVs.cons_inv {d : D} {ds : List D} {vs : List V} (h : RepVs K H (d :: ds) vs) : ∃ v r, vs = v :: r ∧ RepV K H d v ∧ RepVs K H ds r := by
  unfold RepVs at h; exact h
theorem RepVs.nil_inv {vs : List V} (h : RepVs K H [] vs) : vs = [] := by
  unfold RepVs at h; exact h
theorem RepVs.length : ∀ {ds : List D} {vs : List V}, RepVs K H ds vs → vs.length = ds.length
  | [], _, h => by rw [h.nil_inv]; rfl
  | d :: ds, _, h => by
    obtain ⟨v, r, rfl, _, q⟩ := h.cons_inv
    rw [List.length_cons, List.length_cons, RepVs.length q]
theorem RepVs.get : ∀ {ds : List D} {vs : List V} {i : Nat} {d : D}, RepVs K H ds vs → ds[i]? = some d → ∃ v, vs[i]? = some v ∧ RepV K H d v
  | [], _, _, _, _, e => by simp at e
  | d :: ds, _, 0, x, h, e => by
    obtain ⟨v, r, rfl, p, _⟩ := h.cons_inv
    simp at e; subst e
    exact ⟨v, by simp, p⟩
  | d :: ds, _, i + 1, x, h, e => by
    obtain ⟨v, r, rfl, _, q⟩ := h.cons_inv
    obtain ⟨v', e', p⟩ := RepVs.get (i := i) q (by simpa using e)
    exact ⟨v', by simpa using e', p⟩
theorem RepVs.get' : ∀ {ds : List D} {vs : List V} {i : Nat} {v : V}, RepVs K H ds vs → vs[i]? = some v → ∃ d, ds[i]? = some d ∧ RepV K H d v := fun {ds vs i v} h e => by
  have hl := h.length
  have hi : i < vs.length := by
    obtain ⟨z, _⟩ := List.getElem?_eq_some_iff.mp e; exact z
  have e2 : ds[i]? = some ds[i] := by simp [hl ▸ hi]
  obtain ⟨v', e3, p⟩ := h.get e2
  rw [e] at e3; cases e3
  exact ⟨_, e2, p⟩
theorem RepVs.append : ∀ {ds : List D} {vs : List V} {es : List D} {ws : List V}, RepVs K H ds vs → RepVs K H es ws → RepVs K H (ds ++ es) (vs ++ ws)
  | [], _, _, _, h, q => by rw [h.nil_inv]; exact q
  | d :: ds, _, _, _, h, q => by
    obtain ⟨v, r, rfl, p, s⟩ := h.cons_inv
    exact .cons p (RepVs.append s q)
theorem RepVs.set : ∀ {ds : List D} {vs : List V} {d : D} {v : V} (i : Nat), RepVs K H ds vs → RepV K H d v → RepVs K H (ds.set i d) (vs.set i v)
  | [], _, _, _, _, h, _ => by rw [h.nil_inv]; exact .nil
  | d :: ds, _, _, _, 0, h, q => by
    obtain ⟨v, r, rfl, p, s⟩ := h.cons_inv
    exact .cons q s
  | d :: ds, _, _, _, i + 1, h, q => by
    obtain ⟨v, r, rfl, p, s⟩ := h.cons_inv
    exact .cons p (RepVs.set i s q)
theorem RepVs.take : ∀ {ds : List D} {vs : List V} (n : Nat), RepVs K H ds vs → RepVs K H (ds.take n) (vs.take n)
  | _, _, 0, _ => by simp; exact .nil
  | [], _, _ + 1, h => by rw [h.nil_inv]; simp; exact .nil
  | d :: ds, _, n + 1, h => by
    obtain ⟨v, r, rfl, p, s⟩ := h.cons_inv
    exact .cons p (RepVs.take n s)
theorem RepVs.drop : ∀ {ds : List D} {vs : List V} (n : Nat), RepVs K H ds vs → RepVs K H (ds.drop n) (vs.drop n)
  | _, _, 0, h => h
  | [], _, _ + 1, h => by rw [h.nil_inv]; simp; exact .nil
  | d :: ds, _, n + 1, h => by
    obtain ⟨v, r, rfl, p, s⟩ := h.cons_inv
    exact RepVs.drop n s
theorem RepVs.eraseIdx : ∀ {ds : List D} {vs : List V} (n : Nat), RepVs K H ds vs → RepVs K H (ds.eraseIdx n) (vs.eraseIdx n)
  | [], _, _, h => by rw [h.nil_inv]; simp; exact .nil
  | d :: ds, _, 0, h => by
    obtain ⟨v, r, rfl, p, s⟩ := h.cons_inv
    exact s
  | d :: ds, _, n + 1, h => by
    obtain ⟨v, r, rfl, p, s⟩ := h.cons_inv
    exact .cons p (RepVs.eraseIdx n s)
theorem RepVs.reverse : ∀ {ds : List D} {vs : List V}, RepVs K H ds vs → RepVs K H ds.reverse vs.reverse
  | [], _, h => by rw [h.nil_inv]; exact .nil
  | d :: ds, _, h => by
    obtain ⟨v, r, rfl, p, s⟩ := h.cons_inv
    rw [List.reverse_cons, List.reverse_cons]
    exact (RepVs.reverse s).append (.cons p .nil)
theorem RepVs.dropLast {ds : List D} {vs : List V} (h : RepVs K H ds vs) : RepVs K H ds.dropLast vs.dropLast := by
  rw [List.dropLast_eq_take, List.dropLast_eq_take, h.length]
  exact h.take _
theorem RepVs.rep {ds : List D} {vs : List V} (h : RepVs K H ds vs) : ∀ n : Nat, RepVs K H (List.replicate n ds).flatten (List.replicate n vs).flatten
  | 0 => .nil
  | n + 1 => by
    rw [List.replicate_succ, List.replicate_succ, List.flatten_cons, List.flatten_cons]
    exact h.append (RepVs.rep h n)
theorem RepVs.ints : ∀ {ns : List Int} {vs : List V}, RepVs K H (ns.map D.int) vs → vs = ns.map V.int
  | [], _, h => h.nil_inv
  | n :: ns, _, h => by
    obtain ⟨v, r, rfl, p, s⟩ := RepVs.cons_inv (d := .int n) (ds := ns.map D.int) h
    unfold RepV at p
    rw [p, RepVs.ints s]; rfl
theorem RepVs.of_ints : ∀ (ns : List Int), RepVs K H (ns.map D.int) (ns.map V.int)
  | [] => .nil
  | n :: ns => .cons (by unfold RepV; rfl) (RepVs.of_ints ns)
theorem RepVs.bls : ∀ {ns : List Bool} {vs : List V}, RepVs K H (ns.map D.bl) vs → vs = ns.map V.bl
  | [], _, h => h.nil_inv
  | n :: ns, _, h => by
    obtain ⟨v, r, rfl, p, s⟩ := RepVs.cons_inv (d := .bl n) (ds := ns.map D.bl) h
    unfold RepV at p
    rw [p, RepVs.bls s]; rfl

theorem RepC.mono (x : TX H H') {a : Addr} {c : Cell} (e : H' a = H a) (h : RepC K H a c) : RepC K H' a c := by
  cases c with
  | lst ds => obtain ⟨z, vs, e1, r⟩ := h; exact ⟨z, vs, e.trans e1, r.mono x⟩
  | dK kvs => obtain ⟨vs, e1, k, r⟩ := h; exact ⟨vs, e.trans e1, k, r.mono x⟩
  | dT kvs => obtain ⟨vs, e1, k, r⟩ := h; exact ⟨vs, e.trans e1, k, r.mono x⟩
  | ins C fs => obtain ⟨dx, vs, e1, k, r⟩ := h; exact ⟨dx, vs, e.trans e1, k, r.mono x⟩

/-- a new object that the store does not take in -/
theorem TX.new {p : Addr} {o : HO} (n : H p = none) : TX H (upd H p o) :=
  ⟨fun a xs e => by rw [upd_ne (ne_of_none e n)]; exact e, fun a o u e => by rw [upd_ne (ne_of_none e n)]; exact e⟩
theorem RepS.new (h : RepS K S H) {p : Addr} {o : HO} (n : H p = none) : RepS K S (upd H p o) := fun a c e =>
  (h a c e).mono (TX.new n) (upd_ne fun z => by subst z; exact absurd n (h _ c e).not_tup.2.2)
theorem Ext.new {p : Addr} {o : HO} (n : H p = none) : Ext H S (upd H p o) S :=
  ⟨fun a u e ns => ⟨by rw [upd_ne (ne_of_none e n)]; exact e, ns⟩⟩
/-- a new object that it takes in -/
theorem RepS.add (h : RepS K S H) {p : Addr} {o : HO} {c : Cell} (n : H p = none) (hc : RepC K (upd H p o) p c) : RepS K (sup S p c) (upd H p o) := fun a c' e => by
  by_cases hp : a = p
  · subst hp; rw [sup_same] at e; cases e; exact hc
  · rw [sup_ne hp] at e; exact h.new n a c' e
theorem Ext.add {p : Addr} {o : HO} {c : Cell} (n : H p = none) : Ext H S (upd H p o) (sup S p c) :=
  ⟨fun a u e ns => by
    have hp := ne_of_none e n
    exact ⟨by rw [upd_ne hp]; exact e, by rw [sup_ne hp]; exact ns⟩⟩
/-- a place of the store is written -/
theorem TX.put (h : RepS K S H) {p : Addr} {o : HO} {c : Cell} (e : S p = some c) : TX H (upd H p o) :=
  ⟨fun a xs q => by
    rw [upd_ne fun z => by subst z; exact (h _ c e).not_tup.1 xs q]; exact q,
   fun a ob u q => by
    rw [upd_ne fun z => by subst z; exact (h _ c e).not_tup.2.1 ob u q]; exact q⟩
theorem RepS.put (h : RepS K S H) {p : Addr} {o : HO} {c c' : Cell} (e : S p = some c) (hc : RepC K (upd H p o) p c') : RepS K (sup S p c') (upd H p o) := fun a c2 q => by
  by_cases hp : a = p
  · subst hp; rw [sup_same] at q; cases q; exact hc
  · rw [sup_ne hp] at q; exact (h a c2 q).mono (TX.put h e) (upd_ne hp)
theorem Ext.put {p : Addr} {o : HO} {c c' : Cell} (e : S p = some c) : Ext H S (upd H p o) (sup S p c') :=
  ⟨fun a u q ns => by
    have hp : a ≠ p := fun z => by subst z; rw [e] at ns; cases ns
    exact ⟨by rw [upd_ne hp]; exact q, by rw [sup_ne hp]; exact ns⟩⟩
end

/-- the names' values -/
structure RepE (K : PySem.W.Frag) (H : Hp) (ρ : Rho) (σ : L2.St) : Prop where
  len : ρ.length = σ.length
  get : ∀ (i : Nat) (d : D), ρ[i]? = some (some d) → ∃ v, σ[i]? = some (some v) ∧ RepV K H d v
section
variable {K : PySem.W.Frag} {H H' : Hp} {ρ : Rho} {σ : L2.St}
theorem RepE.mono (x : TX H H') (h : RepE K H ρ σ) : RepE K H' ρ σ := ⟨h.len, fun i d e => let ⟨v, e', r⟩ := h.get i d e; ⟨v, e', r.mono x⟩⟩
theorem RepE.set {d : D} {v : V} (i : Nat) (h : RepE K H ρ σ) (r : RepV K H d v) : RepE K H (ρ.set i (some d)) (σ.set i (some v)) := by
  refine ⟨by rw [List.length_set, List.length_set]; exact h.len, fun j e q => ?_⟩
  by_cases hj : i = j
  · subst hj
    have hl : i < ρ.length := by
      obtain ⟨z, _⟩ := List.getElem?_eq_some_iff.mp q
      rwa [List.length_set] at z
    rw [List.getElem?_set_self hl] at q; cases q
    exact ⟨v, List.getElem?_set_self (h.len ▸ hl), r⟩
  · rw [List.getElem?_set_ne hj] at q ⊢
    exact h.get j e q
theorem RepE.unset (i : Nat) (h : RepE K H ρ σ) : RepE K H (ρ.set i none) (σ.set i none) := by
  refine ⟨by rw [List.length_set, List.length_set]; exact h.len, fun j e q => ?_⟩
  by_cases hj : i = j
  · subst hj
    have hl : i < ρ.length := by
      obtain ⟨z, _⟩ := List.getElem?_eq_some_iff.mp q
      rwa [List.length_set] at z
    rw [List.getElem?_set_self hl] at q; cases q
  · rw [List.getElem?_set_ne hj] at q ⊢
    exact h.get j e q
end
end G


namespace G
open PySem PySem.Spec PyProof.Rows L2

/-- built-ins called by their name -/
inductive BI where
  | len | abs | min1 | max1 | min2 | max2 | sum | all | any | sorted | tuple | list | int | isin (ts : List String) | repr | str | lenset | sortedset | listrange
  deriving DecidableEq
/-- methods of built-in kinds -/
inductive MI where
  | append | pop | popAt | extend | insert | remove | count | indexT | indexL | get2 | setdefault
  deriving DecidableEq
/-- types that isinstance is asked for -/
inductive TyN where | int | bool | tuple | list | str | dict
  deriving DecidableEq
/-- forms of a call that are read as one: isinstance(x, T), list(range(..)), len(set(x)), sorted(set(x)) -/
inductive SP where
  | isin (t : TyN) | listrange | lenset | sortset
  deriving DecidableEq
/-- dicts: with int and text keys, with tuple keys -/
inductive DK where | k | t
  deriving DecidableEq

mutual
inductive IE where
  | var (i : Nat)
  | cI (i : Int) | cB (b : Bool) | cN | cS (s : Str)
  | glo (g : Nat)
  | bin (o : Operator) (a b : IE)
  | neg (a : IE)
  | nt (a : IE)
  | and (a b : IE) | or (a b : IE)
  | cmp (o : CmpOp) (a b : IE)
  | chn (o p : CmpOp) (a b c : IE)
  | ite (c a b : IE)
  | call (f : Nat) (es : IEs)
  | bi (b : BI) (es : IEs)
  | mt (m : MI) (o : IE) (es : IEs)
  | sp (k : SP) (es : IEs)
  | ix (a b : IE)
  | sl (a : IE) (lo hi : IEs)
  | rev (k : Nat) (a : IE)
  | tup (es : IEs)
  | lst (es : IEs)
  | dct (k : DK)
  | lc (ws : List Nat) (t : IT) (it : II) (c : IEs) (e : IE)
inductive IEs where
  | nil | cons (e : IE) (es : IEs)
/-- what a loop walks -/
inductive II where
  | val (e : IE) | rng (es : IEs) | enm (e : IE) | zip (a b : IE) | itm (e : IE)
/-- a target -/
inductive IT where
  | nm (i : Nat) | tp (ts : ITs)
inductive ITs where
  | nil | cons (t : IT) (ts : ITs)
end

mutual
inductive IS where
  | asg (t : IT) (e : IE)
  | par (ns : List Nat) (es : IEs)
  | set (o i e : IE)
  | att (o : IE) (f : Str) (e : IE)
  | augN (i : Nat) (o : Operator) (e : IE)
  | augS (a i : IE) (o : Operator) (e : IE)
  | exp (e : IE)
  | ret (e : IE)
  | ifs (c : IE) (a b : ISs)
  | for (t : IT) (it : II) (b : ISs)
  | whl (c : IE) (b : ISs)
  | pas
inductive ISs where
  | nil | cons (s : IS) (r : ISs)
end

/-- a tuple, a list: its items -/
def SeqD (S : Sto) : D → List D → Prop
  | .tup xs, ys => ys = xs
  | .cl xs, ys => ys = xs
  | .ref a, ys => S a = some (.lst ys)
  | _, _ => False
def ListD (S : Sto) : D → List D → Prop
  | .cl xs, ys => ys = xs
  | .ref a, ys => S a = some (.lst ys)
  | _, _ => False
theorem ListD.seq {S : Sto} {d : D} {ys : List D} (h : ListD S d ys) : SeqD S d ys := by
  cases d <;> first | exact h | exact h.elim
mutual
/-- the data d, lists within too, as plain data -/
def IsPy (S : Sto) : PyData → D → Prop
  | .none, d => d = .non
  | .bool b, d => d = .bl b
  | .int i, d => d = .int i
  | .str s, d => d = .str s
  | .list ps, d => ∃ xs, ListD S d xs ∧ IsPys S ps xs
  | .tuple ps, d => ∃ xs, d = .tup xs ∧ IsPys S ps xs
  | .dict _, _ => False
def IsPys (S : Sto) : List PyData → List D → Prop
  | [], xs => xs = []
  | p :: ps, xs => ∃ d r, xs = d :: r ∧ IsPy S p d ∧ IsPys S ps r
end
mutual
/-- a tree as plain data -/
def toPy : D → PyData
  | .non => .none
  | .bl b => .bool b
  | .int i => .int i
  | .str s => .str s
  | .tup xs => .tuple (toPys xs)
  | .cl xs => .list (toPys xs)
  | .ref _ => .none
def toPys : List D → List PyData
  | [] => []
  | d :: ds => toPy d :: toPys ds
end
mutual
/-- no place of the store in it -/
def pureD : D → Bool
  | .tup xs => pureDs xs
  | .cl xs => pureDs xs
  | .ref _ => false
  | _ => true
def pureDs : List D → Bool
  | [] => true
  | d :: ds => pureD d && pureDs ds
end
/-- a < b of trees, by the library's order of data -/
def ltD (a b : D) : Bool := PySem.W.dataLt (toPy a) (toPy b)
def leD (a b : D) : Bool := !ltD b a
/-- two trees that may be compared -/
structure CmpD (a b : D) : Prop where
  pa : pureD a = true
  pb : pureD b = true
  al : PySem.W.AlikeAll [toPy a, toPy b]
  da : (toPy a).depth ≤ 64
  db : (toPy b).depth ≤ 64
/-- trees that may be sorted -/
structure SortD (xs : List D) : Prop where
  pure : ∀ x ∈ xs, pureD x = true
  alike : PySem.W.AllAlike (xs.map toPy)
  kind : PySem.W.Sortable (xs.map toPy)
  deep : ∀ x ∈ xs, (toPy x).depth ≤ 64
/-- what if, while, not make of a value -/
def TruD (S : Sto) : D → Bool → Prop
  | .non, k => k = false
  | .bl b, k => k = b
  | .int i, k => k = (i != 0)
  | .str s, k => s.length ≤ szL ∧ k = (s.length != 0)
  | .tup xs, k => k = !xs.isEmpty
  | .cl xs, k => k = !xs.isEmpty
  | .ref a, k => ∃ xs, S a = some (.lst xs) ∧ k = !xs.isEmpty

abbrev D2 := D → D → Sto → QE → Prop
def wpBin : Operator → D2
  | .Add, x, y, S, Q => match x, y with
    | .int i, .int j => Q (.int (i + j)) S
    | .tup xs, .tup ys => xs.length + ys.length ≤ szL ∧ Q (.tup (xs ++ ys)) S
    | .str s, .str t => s.length + t.length ≤ szL ∧ Q (.str (s ++ t)) S
    | .ref a, .ref b => ∃ xs ys, S a = some (.lst xs) ∧ S b = some (.lst ys) ∧ xs.length + ys.length ≤ szL ∧ ∀ p, S p = none → Q (.ref p) (sup S p (.lst (xs ++ ys)))
    | _, _ => False
  | .Sub, x, y, S, Q => match x, y with
    | .int i, .int j => Q (.int (i - j)) S
    | _, _ => False
  | .Mult, x, y, S, Q => match x, y with
    | .int i, .int j => (CMul i j ∨ CMulW i j) ∧ Q (.int (i * j)) S
    | .ref a, .int k => ∃ xs, S a = some (.lst xs) ∧ (-(2 ^ 63) ≤ k ∧ k < 2 ^ 63) ∧ xs.length * k.toNat ≤ szL ∧ ∀ p, S p = none → Q (.ref p) (sup S p (.lst (List.replicate k.toNat xs).flatten))
    | _, _ => False
  | .FloorDiv, x, y, S, Q => match x, y with
    | .int i, .int j => CDivW i j ∧ Q (.int (i / j)) S
    | _, _ => False
  | .Mod, x, y, S, Q => match x, y with
    | .int i, .int j => 0 < j ∧ Q (.int (i % j)) S
    | _, _ => False
  | .Pow, x, y, S, Q => match x, y with
    | .int i, .int j => CPow i j ∧ Q (.int (i ^ j.toNat)) S
    | _, _ => False
  | .LShift, x, y, S, Q => match x, y with
    | .int i, .int j => CPow i j ∧ Q (.int (i * 2 ^ j.toNat)) S
    | _, _ => False
  | .RShift, x, y, S, Q => match x, y with
    | .int i, .int j => 0 ≤ j ∧ Q (.int (i / 2 ^ j.toNat)) S
    | _, _ => False
  | .BitAnd, x, y, S, Q => match x, y with
    | .int i, .int j => Q (.int (Builtin.bitAnd i j)) S
    | _, _ => False
  | .BitOr, x, y, S, Q => match x, y with
    | .int i, .int j => Q (.int (Builtin.bitOr i j)) S
    | _, _ => False
  | .BitXor, x, y, S, Q => match x, y with
    | .int i, .int j => Q (.int (Builtin.bitXor i j)) S
    | _, _ => False
  | _, _, _, _, _ => False
/-- is None; is True, is False of truths -/
def isD : D → D → Option Bool
  | .bl b, .bl c => some (b == c)
  | .non, .non => some true
  | _, .non => some false
  | _, _ => none
/-- not, where told -/
def ng : Bool → Bool → Bool
  | true, b => !b
  | false, b => b
def wpEq (neg : Bool) : D2 := fun x y S Q => match x, y with
    | .int i, .int j => Q (.bl (ng neg (decide (i = j)))) S
    | .str i, .str j => Q (.bl (ng neg (decide (i = j)))) S
    | .bl i, .bl j => Q (.bl (ng neg (decide (i = j)))) S
    | x, y => ∃ p q, IsPy S p x ∧ IsPy S q y ∧ SeqAt.shaped p = true ∧ SeqAt.shaped q = true ∧ Q (.bl (ng neg (PyData.eqv p q))) S
def wpIn (neg : Bool) : D2 := fun x y S Q => match y with
    | .tup ys => ∃ p ps, IsPy S p x ∧ IsPys S ps ys ∧ SeqAt.shaped p = true ∧ SeqAt.shaped (.tuple ps) = true ∧ Q (.bl (ng neg (ps.any fun z => PyData.eqv z p))) S
    | .cl ys => ∃ p ps, IsPy S p x ∧ IsPys S ps ys ∧ SeqAt.shaped p = true ∧ SeqAt.shaped (.list ps) = true ∧ Q (.bl (ng neg (ps.any fun z => PyData.eqv z p))) S
    | .ref a => ∃ ys p ps, S a = some (.lst ys) ∧ IsPy S p x ∧ IsPys S ps ys ∧ SeqAt.shaped p = true ∧ SeqAt.shaped (.list ps) = true ∧ Q (.bl (ng neg (ps.any fun z => PyData.eqv z p))) S
    | _ => False
/-- < of ints, of tuples -/
def wpLt : D2 := fun x y S Q => match x, y with
    | .int i, .int j => Q (.bl (decide (i < j))) S
    | .tup xs, .tup ys => CmpD (.tup xs) (.tup ys) ∧ Q (.bl (ltD (.tup xs) (.tup ys))) S
    | _, _ => False
def wpCmp : CmpOp → D2
  | .Eq, x, y, S, Q => wpEq false x y S Q
  | .NotEq, x, y, S, Q => wpEq true x y S Q
  | .Lt, x, y, S, Q => wpLt x y S Q
  | .LtE, x, y, S, Q => match x, y with
    | .int i, .int j => Q (.bl (decide (i ≤ j))) S
    | _, _ => False
  | .Gt, x, y, S, Q => match x, y with
    | .int i, .int j => Q (.bl (decide (j < i))) S
    | _, _ => False
  | .GtE, x, y, S, Q => match x, y with
    | .int i, .int j => Q (.bl (decide (j ≤ i))) S
    | _, _ => False
  | .Is, x, y, S, Q => ∃ b, isD x y = some b ∧ Q (.bl b) S
  | .IsNot, x, y, S, Q => ∃ b, isD x y = some b ∧ Q (.bl (!b)) S
  | .In, x, y, S, Q => wpIn false x y S Q
  | .NotIn, x, y, S, Q => wpIn true x y S Q
/-- x op= y of ints alone -/
def wpAug : Operator → D2
  | .Add, x, y, S, Q => match x, y with
    | .int i, .int j => Q (.int (i + j)) S
    | _, _ => False
  | .Sub, x, y, S, Q => match x, y with
    | .int i, .int j => Q (.int (i - j)) S
    | _, _ => False
  | _, _, _, _, _ => False
def wpIx : D2 := fun x y S Q => ∃ xs i v, SeqD S x xs ∧ y = .int i ∧ atI xs i = some v ∧ Q v S
/-- x[lo:hi] -/
def cutD (xs : List D) (lo hi : Option Int) : List D := (xs.drop (HT.sIx xs.length 0 lo)).take (HT.sIx xs.length xs.length hi - HT.sIx xs.length 0 lo)
def wpSl (x : D) (lo hi : Option Int) (S : Sto) (Q : QE) : Prop := match x with
  | .tup xs => Q (.tup (cutD xs lo hi)) S
  | .cl xs => ∀ p, S p = none → Q (.ref p) (sup S p (.lst (cutD xs lo hi)))
  | .ref a => ∃ xs, S a = some (.lst xs) ∧ ∀ p, S p = none → Q (.ref p) (sup S p (.lst (cutD xs lo hi)))
  | _ => False
/-- x[::-1], x[:0:-1] of a tuple: k is 0, 1 -/
def wpRev (k : Nat) (x : D) (S : Sto) (Q : QE) : Prop := match x with
  | .tup xs => Q (.tup (xs.drop k).reverse) S
  | _ => False
def partD : List D → Option (Option Int)
  | [] => some none
  | [.int i] => some (some i)
  | _ => none

inductive KD where | non | bl | int | str | tup | lst | dct
  deriving DecidableEq
/-- which kind a value is of -/
def kdOf (S : Sto) : D → Option KD
  | .non => some .non
  | .bl _ => some .bl
  | .int _ => some .int
  | .str _ => some .str
  | .tup _ => some .tup
  | .cl _ => none
  | .ref a => match S a with
    | some (.lst _) => some .lst
    | some (.dK _) => some .dct
    | _ => none
def isB : KD → TyN → Bool
  | .bl, .bool => true
  | .bl, .int => true
  | .int, .int => true
  | .str, .str => true
  | .tup, .tuple => true
  | .lst, .list => true
  | .dct, .dict => true
  | _, _ => false
/-- how many distinct ones -/
def distN (ns : List Int) : Nat := (firstMet (fun i => ns.getD i 0) ns.length).length
def PairD (d : D) : Prop := ∃ i j : Int, d = .tup [.int i, .int j]
def wpSp : SP → DSp
  | .isin t, ds, S, Q => match ds with
    | [d] => ∃ k, kdOf S d = some k ∧ Q (.bl (isB k t)) S
    | _ => False
  | .listrange, ds, S, Q => match ds with
    | [.int j] => j ≤ szL ∧ -(2 ^ 62) ≤ j ∧ ∀ p, S p = none → Q (.ref p) (sup S p (.lst ((List.range j.toNat).map fun (i : Nat) => D.int (i : Int))))
    | [.int i, .int j] => (-(2 ^ 62) ≤ i ∧ i < 2 ^ 62 ∧ -(2 ^ 62) ≤ j ∧ j < 2 ^ 62) ∧ j - i ≤ szL ∧ ∀ p, S p = none → Q (.ref p) (sup S p (.lst ((List.range (j - i).toNat).map fun (k : Nat) => D.int (i + (k : Int)))))
    | _ => False
  | .lenset, ds, S, Q => match ds with
    | [d] => ∃ ns : List Int, ListD S d (ns.map D.int) ∧ ns.length ≤ 4000 ∧ Q (.int (distN ns : Int)) S
    | _ => False
  | .sortset, ds, S, Q => match ds with
    | [d] => ∃ xs, ListD S d xs ∧ (∀ x ∈ xs, PairD x) ∧ xs.length ≤ 300 ∧ ∀ p ys, S p = none → (∀ y ∈ ys, y ∈ xs) → ys.length ≤ xs.length → Q (.ref p) (sup S p (.lst ys))
    | _ => False
def wpBI : BI → DSp
  | .len, ds, S, Q => match ds with
    | [.tup xs] => Q (.int (xs.length : Int)) S
    | [.cl xs] => Q (.int (xs.length : Int)) S
    | [.str s] => s.length ≤ szL ∧ Q (.int (s.length : Int)) S
    | [.ref a] => ∃ xs, S a = some (.lst xs) ∧ Q (.int (xs.length : Int)) S
    | _ => False
  | .abs, ds, S, Q => match ds with
    | [.int i] => Q (.int (if i < 0 then -i else i)) S
    | _ => False
  | .min1, ds, S, Q => match ds with
    | [d] => ∃ ns : List Int, SeqD S d (ns.map D.int) ∧ ns ≠ [] ∧ ∀ m, m ∈ ns → (∀ y ∈ ns, m ≤ y) → Q (.int m) S
    | _ => False
  | .max1, ds, S, Q => match ds with
    | [d] => ∃ ns : List Int, SeqD S d (ns.map D.int) ∧ ns ≠ [] ∧ ∀ m, m ∈ ns → (∀ y ∈ ns, y ≤ m) → Q (.int m) S
    | _ => False
  | .min2, ds, S, Q => match ds with
    | [.int i, .int j] => Q (.int (if j < i then j else i)) S
    | [.tup xs, .tup ys] => CmpD (.tup ys) (.tup xs) ∧ Q (if ltD (.tup ys) (.tup xs) then .tup ys else .tup xs) S
    | _ => False
  | .max2, ds, S, Q => match ds with
    | [.int i, .int j] => Q (.int (if j > i then j else i)) S
    | _ => False
  | .sum, ds, S, Q => match ds with
    | [d] => ∃ ns : List Int, SeqD S d (ns.map D.int) ∧ Q (.int ns.sum) S
    | _ => False
  | .all, ds, S, Q => match ds with
    | [d] => ∃ bs : List Bool, ListD S d (bs.map D.bl) ∧ Q (.bl (bs.all id)) S
    | _ => False
  | .any, ds, S, Q => match ds with
    | [d] => ∃ bs : List Bool, ListD S d (bs.map D.bl) ∧ Q (.bl (bs.any id)) S
    | _ => False
  | .sorted, ds, S, Q => match ds with
    | [d] => ∃ xs, ListD S d xs ∧ SortD xs ∧ ∀ p, S p = none → Q (.ref p) (sup S p (.lst (xs.mergeSort leD)))
    | _ => False
  | .tuple, ds, S, Q => match ds with
    | [.tup xs] => Q (.tup xs) S
    | [.cl xs] => Q (.tup xs) S
    | [.ref a] => ∃ xs, S a = some (.lst xs) ∧ Q (.tup xs) S
    | _ => False
  | .list, ds, S, Q => match ds with
    | [d] => ∃ xs, SeqD S d xs ∧ ∀ p, S p = none → Q (.ref p) (sup S p (.lst xs))
    | _ => False
  | .int, ds, S, Q => match ds with
    | [.int i] => Q (.int i) S
    | [.bl b] => Q (.int (if b then 1 else 0)) S
    | _ => False
  | _, _, _, _ => False
def wpMI : MI → D → List D → Sto → QE → Prop
  | .indexT, x, ds, S, Q => match x, ds with
    | .tup xs, [d] => ∃ (p : PyData) (ps : List PyData) (j : Nat) (z : PyData), IsPy S p d ∧ IsPys S ps xs ∧ SeqAt.shaped p = true ∧ SeqAt.shaped (.tuple ps) = true ∧ ps[j]? = some z ∧ PyData.eqv z p = true ∧
        (∀ (m : Nat) (z' : PyData), m < j → ps[m]? = some z' → PyData.eqv z' p = false) ∧ Q (.int (j : Int)) S
    | _, _ => False
  | .extend, x, ds, S, Q => match ds with
    | [.ref b] => ∃ a xs ys, x = .ref a ∧ a ≠ b ∧ S a = some (.lst xs) ∧ S b = some (.lst ys) ∧ xs.length + ys.length ≤ szL ∧ Q .non (sup S a (.lst (xs ++ ys)))
    | _ => False
  | .append, x, ds, S, Q => match ds with
    | [d] => ∃ a xs, x = .ref a ∧ S a = some (.lst xs) ∧ xs.length < szL ∧ Q .non (sup S a (.lst (xs ++ [d])))
    | _ => False
  | .pop, x, ds, S, Q => match ds with
    | [] => ∃ a xs y, x = .ref a ∧ S a = some (.lst xs) ∧ xs[xs.length - 1]? = some y ∧ Q y (sup S a (.lst xs.dropLast))
    | _ => False
  | .popAt, x, ds, S, Q => match ds with
    | [.int i] => ∃ a xs y, x = .ref a ∧ S a = some (.lst xs) ∧ 0 ≤ i ∧ xs[i.toNat]? = some y ∧ Q y (sup S a (.lst (xs.eraseIdx i.toNat)))
    | _ => False
  | _, _, _, _, _ => False

/-- the kind that a method is one of -/
def tyMI : MI → D → Sto → Prop
  | .indexT, x, _ => ∃ xs, x = .tup xs
  | .get2, x, S => ∃ a kvs, x = .ref a ∧ S a = some (.dK kvs)
  | .setdefault, x, S => ∃ a kvs, x = .ref a ∧ S a = some (.dK kvs)
  | _, x, S => ∃ a xs, x = .ref a ∧ S a = some (.lst xs)
/-- a comprehension's turns: the step tells what is taken in, if anything -/
def lcRun (live : Sto → Prop) (step : D → Sto → (Option D → Sto → Prop) → Prop) : List D → List D → Sto → (List D → Sto → Prop) → Prop
  | [], acc, S, Q => live S ∧ Q acc S
  | x :: xs, acc, S, Q => live S ∧ step x S fun o S' => lcRun live step xs (match o with | some y => acc ++ [y] | none => acc) S' Q
def forRun (live : Sto → Prop) (step : D → Rho → Sto → (Rho → Sto → Prop) → Prop) : List D → Rho → Sto → (Rho → Sto → Prop) → Prop
  | [], ρ, S, Q => live S ∧ Q ρ S
  | x :: xs, ρ, S, Q => live S ∧ step x ρ S fun ρ' S' => forRun live step xs ρ' S' Q
def whlRun (test : Rho → Sto → (Bool → Sto → Prop) → Prop) (body : Rho → Sto → (Rho → Sto → Prop) → Prop) (ρ : Rho) (S : Sto) (Q : Rho → Sto → Prop) : Prop :=
  ∃ W : Nat → Rho → Sto → Prop, (∃ m, W m ρ S) ∧ ∀ m ρ S, W m ρ S → test ρ S fun b S1 => match b with
    | true => body ρ S1 fun ρ' S' => ∃ m', m' < m ∧ W m' ρ' S'
    | false => Q ρ S1
def wipeD (ρ : Rho) : List Nat → Rho
  | [] => ρ
  | v :: vs => (wipeD ρ vs).set v none

mutual
def asgT : IT → D → Rho → Sto → (Rho → Prop) → Prop
  | .nm i, d, ρ, _, Q => Q (ρ.set i (some d))
  | .tp ts, d, ρ, S, Q => match d with
    | .tup xs => asgTs ts xs ρ S Q
    | _ => False
def asgTs : ITs → List D → Rho → Sto → (Rho → Prop) → Prop
  | .nil, ds, ρ, _, Q => ds = [] ∧ Q ρ
  | .cons t ts, ds, ρ, S, Q => match ds with
    | d :: r => asgT t d ρ S fun ρ' => asgTs ts r ρ' S Q
    | [] => False
end
def parSet (ρ : Rho) : List Nat → List D → Option Rho
  | [], [] => some ρ
  | i :: is, d :: ds => parSet (ρ.set i (some d)) is ds
  | _, _ => none

/-- the defs that may be called, the module's constants -/
structure Tab where
  fs : List (Str × DSp)
  gs : List (Str × D)

mutual
def wpE (T : Tab) : IE → Rho → Sto → QE → Prop
  | .var i, ρ, S, Q => match ρ[i]? with
    | some (some d) => Q d S
    | _ => False
  | .cI i, _, S, Q => Q (.int i) S
  | .cB b, _, S, Q => Q (.bl b) S
  | .cN, _, S, Q => Q .non S
  | .cS s, _, S, Q => Q (.str s) S
  | .glo g, _, S, Q => match T.gs[g]? with
    | some p => Q p.2 S
    | none => False
  | .bin o a b, ρ, S, Q => wpE T a ρ S fun x S1 => wpE T b ρ S1 fun y S2 => wpBin o x y S2 Q
  | .neg a, ρ, S, Q => wpE T a ρ S fun x S1 => match x with
    | .int i => Q (.int (-i)) S1
    | _ => False
  | .nt a, ρ, S, Q => wpE T a ρ S fun x S1 => ∃ k, TruD S1 x k ∧ Q (.bl (!k)) S1
  | .and a b, ρ, S, Q => wpE T a ρ S fun x S1 => match x with
    | .bl true => wpE T b ρ S1 Q
    | .bl false => Q (.bl false) S1
    | _ => False
  | .or a b, ρ, S, Q => wpE T a ρ S fun x S1 => match x with
    | .bl true => Q (.bl true) S1
    | .bl false => wpE T b ρ S1 Q
    | _ => False
  | .cmp o a b, ρ, S, Q => wpE T a ρ S fun x S1 => wpE T b ρ S1 fun y S2 => wpCmp o x y S2 Q
  | .chn o p a b c, ρ, S, Q => wpE T a ρ S fun x S1 => wpE T b ρ S1 fun y S2 => wpCmp o x y S2 fun z S3 => match z with
    | .bl true => wpE T c ρ S3 fun u S4 => wpCmp p y u S4 Q
    | .bl false => Q (.bl false) S3
    | _ => False
  | .ite c a b, ρ, S, Q => wpT T c ρ S fun k S1 => match k with
    | true => wpE T a ρ S1 Q
    | false => wpE T b ρ S1 Q
  | .call f es, ρ, S, Q => wpEs T es ρ S fun ds S1 => match T.fs[f]? with
    | some p => p.2 ds S1 Q
    | none => False
  | .bi b es, ρ, S, Q => wpEs T es ρ S fun ds S1 => wpBI b ds S1 Q
  | .mt m o es, ρ, S, Q => wpE T o ρ S fun x S1 => tyMI m x S1 ∧ wpEs T es ρ S1 fun ds S2 => wpMI m x ds S2 Q
  | .sp k es, ρ, S, Q => wpEs T es ρ S fun ds S1 => wpSp k ds S1 Q
  | .ix a b, ρ, S, Q => wpE T a ρ S fun x S1 => wpE T b ρ S1 fun y S2 => wpIx x y S2 Q
  | .sl a lo hi, ρ, S, Q => wpE T a ρ S fun x S1 => wpEs T lo ρ S1 fun l S2 => match partD l with
    | some l => wpEs T hi ρ S2 fun h S3 => match partD h with
      | some h => wpSl x l h S3 Q
      | none => False
    | none => False
  | .rev k a, ρ, S, Q => wpE T a ρ S fun x S1 => wpRev k x S1 Q
  | .tup es, ρ, S, Q => wpEs T es ρ S fun ds S1 => ds.length ≤ szL ∧ Q (.tup ds) S1
  | .lst es, ρ, S, Q => wpEs T es ρ S fun ds S1 => ds.length ≤ szL ∧ ∀ p, S1 p = none → Q (.ref p) (sup S1 p (.lst ds))
  | .dct k, _, S, Q => ∀ p, S p = none → Q (.ref p) (sup S p (match k with | .k => .dK [] | .t => .dT []))
  | .lc ws t it c e, ρ, S, Q => wpI T it ρ S fun xs live S1 =>
      lcRun live (fun x S2 N => asgT t x (wipeD ρ ws) S2 fun ρ2 => wpTs T c ρ2 S2 fun k S3 => match k with
        | true => wpE T e ρ2 S3 fun y S4 => N (some y) S4
        | false => N none S3) xs [] S1 fun ys S2 => ∀ p, S2 p = none → Q (.ref p) (sup S2 p (.lst ys))
def wpEs (T : Tab) : IEs → Rho → Sto → (List D → Sto → Prop) → Prop
  | .nil, _, S, Q => Q [] S
  | .cons e es, ρ, S, Q => wpE T e ρ S fun d S1 => wpEs T es ρ S1 fun ds S2 => Q (d :: ds) S2
/-- a test -/
def wpT (T : Tab) : IE → Rho → Sto → (Bool → Sto → Prop) → Prop
  | .nt a, ρ, S, Q => wpT T a ρ S fun k S1 => Q (!k) S1
  | .and a b, ρ, S, Q => wpT T a ρ S fun k S1 => match k with
    | true => wpT T b ρ S1 Q
    | false => Q false S1
  | .or a b, ρ, S, Q => wpT T a ρ S fun k S1 => match k with
    | true => Q true S1
    | false => wpT T b ρ S1 Q
  | .cmp o a b, ρ, S, Q => wpE T a ρ S fun x S1 => wpE T b ρ S1 fun y S2 => wpCmp o x y S2 fun z S3 => match z with
    | .bl k => Q k S3
    | _ => False
  | .chn o p a b c, ρ, S, Q => wpE T a ρ S fun x S1 => wpE T b ρ S1 fun y S2 => wpCmp o x y S2 fun z S3 => match z with
    | .bl true => wpE T c ρ S3 fun u S4 => wpCmp p y u S4 fun z S5 => match z with
      | .bl k => Q k S5
      | _ => False
    | .bl false => Q false S3
    | _ => False
  | .call f es, ρ, S, Q => wpEs T es ρ S fun ds S1 => match T.fs[f]? with
    | some p => p.2 ds S1 fun x S2 => ∃ k, TruD S2 x k ∧ Q k S2
    | none => False
  | .bi b es, ρ, S, Q => wpEs T es ρ S fun ds S1 => wpBI b ds S1 fun x S2 => ∃ k, TruD S2 x k ∧ Q k S2
  | .sp k es, ρ, S, Q => wpEs T es ρ S fun ds S1 => wpSp k ds S1 fun x S2 => ∃ k, TruD S2 x k ∧ Q k S2
  | .var i, ρ, S, Q => match ρ[i]? with
    | some (some d) => ∃ k, TruD S d k ∧ Q k S
    | _ => False
  | .ix a b, ρ, S, Q => wpE T a ρ S fun x S1 => wpE T b ρ S1 fun y S2 => wpIx x y S2 fun x S2 => ∃ k, TruD S2 x k ∧ Q k S2
  | .mt m o es, ρ, S, Q => wpE T o ρ S fun x S1 => tyMI m x S1 ∧ wpEs T es ρ S1 fun ds S2 => wpMI m x ds S2 fun x S2 => ∃ k, TruD S2 x k ∧ Q k S2
  | _, _, _, _ => False
def wpTs (T : Tab) : IEs → Rho → Sto → (Bool → Sto → Prop) → Prop
  | .nil, _, S, Q => Q true S
  | .cons c r, ρ, S, Q => wpT T c ρ S Q
/-- what is walked: its items, what must stay true at each turn -/
def wpI (T : Tab) : II → Rho → Sto → (List D → (Sto → Prop) → Sto → Prop) → Prop
  | .val e, ρ, S, Q => wpE T e ρ S fun d S1 => match d with
    | .tup xs => Q xs (fun _ => True) S1
    | .cl xs => Q xs (fun _ => True) S1
    | .ref a => ∃ xs, S1 a = some (.lst xs) ∧ Q xs (fun S2 => S2 a = some (.lst xs)) S1
    | _ => False
  | .rng es, ρ, S, Q => wpEs T es ρ S fun ds S1 => match ds with
    | [.int j] => j ≤ szL ∧ -(2 ^ 62) ≤ j ∧ Q ((List.range j.toNat).map fun (i : Nat) => D.int (i : Int)) (fun _ => True) S1
    | [.int i, .int j] => (-(2 ^ 62) ≤ i ∧ i < 2 ^ 62 ∧ -(2 ^ 62) ≤ j ∧ j < 2 ^ 62) ∧ j - i ≤ szL ∧ Q ((List.range (j - i).toNat).map fun (k : Nat) => D.int (i + (k : Int))) (fun _ => True) S1
    | _ => False
  | .enm e, ρ, S, Q => wpE T e ρ S fun d S1 => ∃ xs, ListD S1 d xs ∧ Q (xs.zipIdx.map fun (p : D × Nat) => D.tup [.int (p.2 : Int), p.1]) (fun S2 => ListD S2 d xs) S1
  | .zip a b, ρ, S, Q => wpE T a ρ S fun x S1 => wpE T b ρ S1 fun y S2 => match x, y with
    | .tup xs, .tup ys => Q ((xs.zip ys).map fun (p : D × D) => D.tup [p.1, p.2]) (fun _ => True) S2
    | x, y => ∃ xs ys, ListD S2 x xs ∧ ListD S2 y ys ∧ Q ((xs.zip ys).map fun (p : D × D) => D.tup [p.1, p.2]) (fun S3 => ListD S3 x xs ∧ ListD S3 y ys) S2
  | .itm _, _, _, _ => False
end

structure DEnds where
  nx : Rho → Sto → Prop
  rt : QE
mutual
def wpS (T : Tab) : IS → DEnds → Rho → Sto → Prop
  | .asg t e, D, ρ, S => wpE T e ρ S fun d S1 => asgT t d ρ S1 fun ρ' => D.nx ρ' S1
  | .par ns es, D, ρ, S => wpEs T es ρ S fun ds S1 => match parSet ρ ns ds with
    | some ρ' => D.nx ρ' S1
    | none => False
  | .set o i e, D, ρ, S => wpE T e ρ S fun v S1 => wpE T o ρ S1 fun x S2 => wpE T i ρ S2 fun y S3 => ∃ a xs k j, x = .ref a ∧ y = .int k ∧ S3 a = some (.lst xs) ∧ ixN xs.length k = some j ∧ D.nx ρ (sup S3 a (.lst (xs.set j v)))
  | .att _ _ _, _, _, _ => False
  | .augN i o e, D, ρ, S => match ρ[i]? with
    | some (some x) => wpE T e ρ S fun y S1 => wpAug o x y S1 fun z S2 => D.nx (ρ.set i (some z)) S2
    | _ => False
  | .augS a i o e, D, ρ, S => wpE T a ρ S fun x S1 => wpE T i ρ S1 fun y S2 => wpIx x y S2 fun u S3 => wpE T e ρ S3 fun v S4 => wpAug o u v S4 fun z S5 =>
      ∃ p xs k j, x = .ref p ∧ y = .int k ∧ S5 p = some (.lst xs) ∧ ixN xs.length k = some j ∧ D.nx ρ (sup S5 p (.lst (xs.set j z)))
  | .exp e, D, ρ, S => wpE T e ρ S fun _ S1 => D.nx ρ S1
  | .ret e, D, ρ, S => wpE T e ρ S D.rt
  | .ifs c a b, D, ρ, S => wpT T c ρ S fun k S1 => match k with
    | true => wpSs T a D ρ S1
    | false => wpSs T b D ρ S1
  | .for t it b, D, ρ, S => wpI T it ρ S fun xs live S1 =>
      forRun live (fun x ρ1 S2 N => asgT t x ρ1 S2 fun ρ2 => wpSs T b ⟨N, D.rt⟩ ρ2 S2) xs ρ S1 D.nx
  | .whl c b, D, ρ, S => whlRun (fun ρ1 S1 N => wpT T c ρ1 S1 N) (fun ρ1 S1 N => wpSs T b ⟨N, D.rt⟩ ρ1 S1) ρ S D.nx
  | .pas, D, ρ, S => D.nx ρ S
def wpSs (T : Tab) : ISs → DEnds → Rho → Sto → Prop
  | .nil, D, ρ, S => D.nx ρ S
  | .cons s r, D, ρ, S => wpS T s ⟨fun ρ1 S1 => wpSs T r D ρ1 S1, D.rt⟩ ρ S
end
/-- the names' values at a def's entry -/
def startD (n : Nat) (ds : List D) : Rho := ds.map some ++ List.replicate (n - ds.length) none
/-- what a def's body asks -/
def wpF (T : Tab) (n : Nat) (b : ISs) : DSp := fun ds S Q => wpSs T b ⟨fun _ S' => Q .non S', Q⟩ (startD n ds) S
end G


namespace G
open PySem PySem.Spec PyProof.Rows L2

def PostE (K : PySem.W.Frag) (H : Hp) (S : Sto) (Q : QE) (R : VK) : Prop := ∀ d S' v H', Q d S' → Ext H S H' S' → RepV K H' d v → RepS K S' H' → R v H'
def rdE (K : PySem.W.Frag) (w : Rho → Sto → QE → Prop) : TE := fun σ H R => ∃ ρ S Q, RepE K H ρ σ ∧ RepS K S H ∧ w ρ S Q ∧ PostE K H S Q R
def rdT (K : PySem.W.Frag) (w : Rho → Sto → (Bool → Sto → Prop) → Prop) : TT := fun σ H R => ∃ (ρ : Rho) (S : Sto) (Q : Bool → Sto → Prop), RepE K H ρ σ ∧ RepS K S H ∧ w ρ S Q ∧ ∀ k S' H', Q k S' → Ext H S H' S' → RepS K S' H' → R k H'
def rdA (K : PySem.W.Frag) (n : Nat) (w : Rho → Sto → (List D → Sto → Prop) → Prop) : TA := fun σ H R => ∃ (ρ : Rho) (S : Sto) (Q : List D → Sto → Prop), RepE K H ρ σ ∧ RepS K S H ∧ w ρ S Q ∧ ∀ ds S' vs H', ds.length = n → Q ds S' → Ext H S H' S' → RepVs K H' ds vs → RepS K S' H' → R vs H'
def rd2 (K : PySem.W.Frag) (w : D2) : R2 := fun x y H R => ∃ dx dy S Q, RepV K H dx x ∧ RepV K H dy y ∧ RepS K S H ∧ w dx dy S Q ∧ PostE K H S Q R
def rdN (K : PySem.W.Frag) (w : DSp) : List V → Hp → VK → Prop := fun vs H R => ∃ ds S Q, RepVs K H ds vs ∧ RepS K S H ∧ w ds S Q ∧ PostE K H S Q R
/-- a def's promise -/
def spOf (K : PySem.W.Frag) (n : Nat) (w : DSp) : Sp := fun vs H R _ => ∃ ds S Q, ds.length = n ∧ RepVs K H ds vs ∧ RepS K S H ∧ w ds S Q ∧ PostE K H S Q R
def rdS (K : PySem.W.Frag) (w : DEnds → Rho → Sto → Prop) : TS := fun D σ H => ∃ (ρ : Rho) (S : Sto) (E : DEnds), RepE K H ρ σ ∧ RepS K S H ∧ w E ρ S ∧
  (∀ ρ' S' σ' H', E.nx ρ' S' → Ext H S H' S' → RepE K H' ρ' σ' → RepS K S' H' → D.nx σ' H') ∧ PostE K H S E.rt D.rt

section
variable {X : Cx} {K : PySem.W.Frag} {H H' : Hp} {S S' : Sto} {Q : QE} {R : VK}
theorem PE.imp {e : Expr} {t t' : TE} (h : PE X e t) (i : ∀ σ H R, t' σ H R → t σ H R) : PE X e t' := ⟨fun pins s σ H Q I q => h.run pins s σ H Q I (i σ H Q q)⟩
theorem PT.imp {e : Expr} {t t' : TT} (h : PT X e t) (i : ∀ σ H R, t' σ H R → t σ H R) : PT X e t' := ⟨fun pins s σ H Q I q => h.run pins s σ H Q I (i σ H Q q)⟩
theorem PA.imp {e : List Expr} {t t' : TA} (h : PA X e t) (i : ∀ σ H R, t' σ H R → t σ H R) : PA X e t' := ⟨fun p pins s σ H Q I q => h.run p pins s σ H Q I (i σ H Q q)⟩
theorem PS.imp {e : Stmt} {t t' : TS} (h : PS X e t) (i : ∀ D σ H, t' D σ H → t D σ H) : PS X e t' := ⟨fun pins s σ H D I q => h.run pins s σ H D I (i D σ H q)⟩
theorem PSs.imp {e : List Stmt} {t t' : TS} (h : PSs X e t) (i : ∀ D σ H, t' D σ H → t D σ H) : PSs X e t' := ⟨fun pins s σ H D I q => h.run pins s σ H D I (i D σ H q)⟩
theorem OpR.imp {f : Value → Value → Sem Value} {r r' : R2} (h : OpR X f r) (i : ∀ x y H R, r' x y H R → r x y H R) : OpR X f r' := fun pins s σ H x y v u Q I rx ry q => h pins s σ H x y v u Q I rx ry (i x y H Q q)

theorem PostE.here (p : PostE K H S Q R) {d : D} {v : V} (rs : RepS K S H) (q : Q d S) (r : RepV K H d v) : R v H := p d S v H q Ext.refl r rs
theorem PostE.trans {H1 : Hp} {S1 : Sto} (p : PostE K H S Q R) (e : Ext H S H1 S1) : PostE K H1 S1 Q R := fun d S' v H' q x r rs => p d S' v H' q (e.trans x) r rs
/-- an answer at a new tuple -/
theorem PostE.newT (p : PostE K H S Q R) (rs : RepS K S H) {ds : List D} {vs : List V} {a : Addr} {ob : Obj} (n : H a = none) (hd : ob.dict = none) (hz : ds.length ≤ szL) (r : RepVs K H ds vs) (q : Q (.tup ds) S) : R (.ref a) (upd H a (.frz ob (.tup vs))) :=
  p (.tup ds) S (.ref a) _ q (Ext.new n) (by unfold RepV; exact ⟨hz, a, vs, rfl, .inl ⟨ob, upd_same, hd⟩, RepVs.mono (TX.new n) ds vs r⟩) (rs.new n)
/-- at a new list -/
theorem PostE.newL (p : PostE K H S Q R) (rs : RepS K S H) {ds : List D} {vs : List V} {a : Addr} (n : H a = none) (hz : ds.length ≤ szL) (r : RepVs K H ds vs) (q : ∀ p, S p = none → Q (.ref p) (sup S p (.lst ds))) : R (.ref a) (upd H a (.lst vs)) :=
  p (.ref a) _ (.ref a) _ (q a (rs.none_of n)) (Ext.add n) (by unfold RepV; rfl) (rs.add n ⟨hz, vs, upd_same, RepVs.mono (TX.new n) ds vs r⟩)
theorem rv_int {i : Int} {v : V} (h : RepV K H (.int i) v) : v = .int i := by unfold RepV at h; exact h
theorem rv_bl {i : Bool} {v : V} (h : RepV K H (.bl i) v) : v = .bl i := by unfold RepV at h; exact h
theorem rv_non {v : V} (h : RepV K H .non v) : v = .non := by unfold RepV at h; exact h
theorem rv_str {i : Str} {v : V} (h : RepV K H (.str i) v) : v = .str i := by unfold RepV at h; exact h
theorem rv_ref {a : Addr} {v : V} (h : RepV K H (.ref a) v) : v = .ref a := by unfold RepV at h; exact h
theorem rv_tupN {ds : List D} {v : V} (h : RepV K H (.tup ds) v) : ds.length ≤ szL ∧ ∃ a vs, v = .ref a ∧ TupN K H a vs ∧ RepVs K H ds vs := by unfold RepV at h; exact h
theorem rv_tup {ds : List D} {v : V} (h : RepV K H (.tup ds) v) : ds.length ≤ szL ∧ ∃ a vs, v = .ref a ∧ SqT K H a vs ∧ RepVs K H ds vs :=
  let ⟨z, a, vs, e, q, r⟩ := rv_tupN h
  ⟨z, a, vs, e, q.sq, r⟩
theorem rv_cl {ds : List D} {v : V} (h : RepV K H (.cl ds) v) : ds.length ≤ szL ∧ ∃ a vs, v = .ref a ∧ FzL K H a vs ∧ RepVs K H ds vs := by unfold RepV at h; exact h
theorem RepV.i (i : Int) : RepV K H (.int i) (.int i) := by unfold RepV; rfl
theorem RepV.b (i : Bool) : RepV K H (.bl i) (.bl i) := by unfold RepV; rfl
theorem RepV.n : RepV K H .non .non := by unfold RepV; rfl
theorem RepV.s (i : Str) : RepV K H (.str i) (.str i) := by unfold RepV; rfl
theorem RepV.r (a : Addr) : RepV K H (.ref a) (.ref a) := by unfold RepV; rfl
theorem RepS.lst (h : RepS K S H) {a : Addr} {ds : List D} (e : S a = some (.lst ds)) : ds.length ≤ szL ∧ ∃ vs, H a = some (.lst vs) ∧ RepVs K H ds vs := h a _ e
/-- a value that is read as a sequence -/
theorem SeqD.rep (rs : RepS K S H) {d : D} {ds : List D} {v : V} (h : SeqD S d ds) (r : RepV K H d v) : ds.length ≤ szL ∧ ∃ a vs, v = .ref a ∧ (SqL K H a vs ∨ SqT K H a vs) ∧ RepVs K H ds vs := by
  cases d with
  | tup xs =>
    cases (show ds = xs from h)
    obtain ⟨z, a, vs, e, q, p⟩ := rv_tup r
    exact ⟨z, a, vs, e, .inr q, p⟩
  | cl xs =>
    cases (show ds = xs from h)
    obtain ⟨z, a, vs, e, q, p⟩ := rv_cl r
    exact ⟨z, a, vs, e, .inl q.sq, p⟩
  | ref a =>
    obtain ⟨z, vs, e, p⟩ := rs.lst (show S a = some (.lst ds) from h)
    exact ⟨z, a, vs, rv_ref r, .inl (.of e), p⟩
  | _ => exact h.elim
theorem ListD.rep (rs : RepS K S H) {d : D} {ds : List D} {v : V} (h : ListD S d ds) (r : RepV K H d v) : ds.length ≤ szL ∧ ∃ a vs, v = .ref a ∧ SqL K H a vs ∧ RepVs K H ds vs := by
  cases d with
  | cl xs =>
    cases (show ds = xs from h)
    obtain ⟨z, a, vs, e, q, p⟩ := rv_cl r
    exact ⟨z, a, vs, e, q.sq, p⟩
  | ref a =>
    obtain ⟨z, vs, e, p⟩ := rs.lst (show S a = some (.lst ds) from h)
    exact ⟨z, a, vs, rv_ref r, .of e, p⟩
  | _ => exact h.elim
mutual
theorem IsPy.rep (rs : RepS K S H) : ∀ (p : PyData) (d : D) (v : V), IsPy S p d → RepV K H d v → Dp K H v p
  | .none, d, v, h, r => by unfold IsPy at h; subst h; rw [rv_non r]; exact .non
  | .bool b, d, v, h, r => by unfold IsPy at h; subst h; rw [rv_bl r]; exact .bl b
  | .int b, d, v, h, r => by unfold IsPy at h; subst h; rw [rv_int r]; exact .int b
  | .str b, d, v, h, r => by unfold IsPy at h; subst h; rw [rv_str r]; exact .str b
  | .list ps, d, v, h, r => by
    unfold IsPy at h
    obtain ⟨xs, hl, hp⟩ := h
    obtain ⟨_, a, vs, rfl, q, rv⟩ := hl.rep rs r
    exact .lst q (IsPys.rep rs ps xs vs hp rv)
  | .tuple ps, d, v, h, r => by
    unfold IsPy at h
    obtain ⟨xs, rfl, hp⟩ := h
    obtain ⟨_, a, vs, rfl, q, rv⟩ := rv_tup r
    exact .tup q (IsPys.rep rs ps xs vs hp rv)
  | .dict _, _, _, h, _ => by unfold IsPy at h; exact h.elim
theorem IsPys.rep (rs : RepS K S H) : ∀ (ps : List PyData) (ds : List D) (vs : List V), IsPys S ps ds → RepVs K H ds vs → DpAll K H vs ps
  | [], ds, vs, h, r => by unfold IsPys at h; subst h; rw [r.nil_inv]; exact .nil
  | p :: ps, ds, vs, h, r => by
    unfold IsPys at h
    obtain ⟨d, rr, rfl, h1, h2⟩ := h
    obtain ⟨v, vr, rfl, r1, r2⟩ := r.cons_inv
    exact .cons (IsPy.rep rs p d v h1 r1) (IsPys.rep rs ps rr vr h2 r2)
end
end

section
variable {X : Cx}
theorem frz_new {P : Program} {w : World} {H : Hp} {h : Heap} {a : Addr} {xs : List V} {us : List Value} {o : Obj} (hz : xs.length ≤ sizeLine) (r : Vals xs us) (e : h.get? a = some o) (hc : o.cls = .type "tuple") {n : Nat} (hd : o.data = .seq us.toArray n) :
    ObjOk P w H h a (.frz o (.tup xs)) := ⟨e, hz, us, r, o, e, hc, n, hd⟩
def tTupF (t : TA) : TE := fun σ H Q => t σ H fun xs H1 => xs.length ≤ sizeLine ∧ ∀ p ob, H1 p = none → ob.dict = none → Q (.ref p) (upd H1 p (.frz ob (.tup xs)))
theorem pe_tupF {es : List Expr} {t : TA} {pos : Pos} {x1} (h : PA X es t) : PE X (.Tuple es x1 pos) (tTupF t) := by
  refine ⟨fun pins s σ H Q I hq => ?_⟩
  refine wpAny_Tuple_spliced (thn (h.run pos pins s σ H _ I hq) fun us s1 ⟨xs, H1, I1, r, z, q⟩ => ⟨by rw [← r.length]; exact z, ?_⟩)
  have hf : H1 s1.heap.objs.size = none := I1.hok.fresh (Nat.le_refl _)
  exact ⟨.ref s1.heap.objs.size, _, I1.laid (t' := s1.toks) (o := .frz { cls := .type "tuple", data := .seq us.toArray } (.tup xs)) (fun b u e => Heap.get?_push_of_some _ e) (Nat.le_refl _) (frz_new z r (Heap.get?_push_size _ rfl) rfl rfl), rfl, q _ _ hf rfl⟩
def rTupOfF (K : PySem.W.Frag) : List V → Hp → VK → Prop := fun xs H Q => ∃ p ys, xs = [.ref p] ∧ ((SqL K H p ys ∧ ∀ l ob, H l = none → ob.dict = none → Q (.ref l) (upd H l (.frz ob (.tup ys)))) ∨ (SqT K H p ys ∧ Q (.ref p) H))
theorem call_tuple_ofF : CallR X (.type "tuple") (rTupOfF X.K) := by
  intro pins s σ H xs us Q I r h
  obtain ⟨p, ys, rfl, h⟩ := h
  obtain ⟨u, rfl, rx⟩ := vals1 r
  cases rx
  rcases h with ⟨hq, q⟩ | ⟨hq, q⟩
  · obtain ⟨its, r', pl, hz⟩ := I.list hq
    have hlen := r'.length
    refine call_tuple_list pl.isList (fun h' kp => ?_) (by simp only [List.size_toArray] <;> omega)
    have I1 : Inv X pins σ H { s with heap := h' } := I.kept (t' := s.toks) kp
    exact ⟨.ref h'.objs.size, _, I1.laid (t' := s.toks) (o := .frz { cls := .type "tuple", data := .seq its.toArray } (.tup ys)) (fun b o e => Heap.get?_push_of_some _ e) (Nat.le_refl _) (frz_new hz r' (Heap.get?_push_size _ rfl) rfl rfl), rfl, q _ _ (I1.hok.fresh (Nat.le_refl _)) rfl⟩
  · obtain ⟨its, r', pl, hz⟩ := I.tuple hq
    exact call_tuple_same pl ⟨.ref p, H, I, rfl, q⟩
def rCatF (K : PySem.W.Frag) : R2 := fun x y H Q => ∃ a b xs ys, x = .ref a ∧ y = .ref b ∧ SqT K H a xs ∧ SqT K H b ys ∧ xs.length + ys.length ≤ sizeLine ∧
  (xs = [] → Q (.ref b) H) ∧ (xs ≠ [] → ys = [] → Q (.ref a) H) ∧ (xs ≠ [] → ys ≠ [] → ∀ p ob, H p = none → ob.dict = none → Q (.ref p) (upd H p (.frz ob (.tup (xs ++ ys)))))
theorem op_catF : OpR X (binaryOp .Add) (rCatF X.K) := by
  intro pins s σ H x y v u Q I rx ry h
  obtain ⟨a, b, xs, ys, rfl, rfl, ha, hb, hz, q0, q1, q2⟩ := h
  cases rx
  cases ry
  obtain ⟨its, r1, p1, _⟩ := I.tuple ha
  obtain ⟨its2, r2, p2, _⟩ := I.tuple hb
  by_cases hx : xs = []
  · subst hx
    cases r1
    exact cat_tup0 p1 p2 ⟨.ref b, H, I, rfl, q0 rfl⟩
  · refine HT.cat_tup p1 p2 (fun z => hx (r1.nil_iff.mp z)) (fun z => ⟨.ref a, H, I, rfl, q1 hx (r2.nil_iff.mp z)⟩) (fun z => ?_) (by rw [← r1.length, ← r2.length]; exact hz)
    exact ⟨.ref s.heap.objs.size, _, I.laid (t' := s.toks) (o := .frz { cls := .type "tuple", data := .seq (its ++ its2).toArray } (.tup (xs ++ ys))) (fun b ob q => Heap.get?_push_of_some _ q) (Nat.le_refl _)
      (frz_new (by rw [List.length_append]; exact hz) (r1.append r2) (Heap.get?_push_size _ rfl) rfl rfl), rfl, q2 hx (fun w => z (r2.nil_iff.mpr w)) _ _ (I.hok.fresh (Nat.le_refl _)) rfl⟩
def rSlF (K : PySem.W.Frag) : V → Option Int → Option Int → Hp → VK → Prop := fun x lo hi H Q => ∃ a xs, x = .ref a ∧ SqT K H a xs ∧
  (HT.sIx xs.length 0 lo = 0 ∧ HT.sIx xs.length xs.length hi = xs.length → Q (.ref a) H) ∧ (¬ (HT.sIx xs.length 0 lo = 0 ∧ HT.sIx xs.length xs.length hi = xs.length) → ∀ p ob, H p = none → ob.dict = none → Q (.ref p) (upd H p (.frz ob (.tup (cutV xs lo hi)))))
theorem sl_tupF : SlR X (rSlF X.K) := by
  intro pins s σ H x v vl vu lo hi sl Q I rx hs pl pu h
  obtain ⟨a, xs, rfl, hx, q1, q2⟩ := h
  cases rx
  obtain ⟨its, r, ht, hz⟩ := I.tuple hx
  have hlen : its.toArray.size = xs.length := by rw [List.size_toArray]; exact r.length.symm
  by_cases hw : HT.sIx xs.length 0 lo = 0 ∧ HT.sIx xs.length xs.length hi = xs.length
  · refine ⟨"tuple", _, PyProof.Rows.slot_tuple_getitem.lookup, ht.typeIs, ?_⟩
    exact getItem_tuple_whole ht hs pl pu (by rw [hlen]; exact hw) ⟨.ref a, H, I, rfl, q1 hw⟩
  · refine ⟨"tuple", _, PyProof.Rows.slot_tuple_getitem.lookup, ht.typeIs, ?_⟩
    refine HT.getItem_tuple_cut ht hs pl pu (by rw [hlen]; exact hw) ?_ (by rw [hlen]; exact hz)
    rw [hlen]
    have rr := (r.drop (HT.sIx xs.length 0 lo)).take (HT.sIx xs.length xs.length hi - HT.sIx xs.length 0 lo)
    exact ⟨.ref s.heap.objs.size, _, I.laid (t' := s.toks) (o := .frz { cls := .type "tuple", data := .seq ((its.drop (HT.sIx xs.length 0 lo)).take (HT.sIx xs.length xs.length hi - HT.sIx xs.length 0 lo)).toArray } (.tup (cutV xs lo hi))) (fun b ob q => Heap.get?_push_of_some _ q) (Nat.le_refl _)
      (frz_new (Nat.le_trans (cutV_length xs lo hi) hz) rr (Heap.get?_push_size _ rfl) rfl rfl), rfl, q2 hw _ _ (I.hok.fresh (Nat.le_refl _)) rfl⟩
end

section
variable {X : Cx}
theorem room_un {A : Around} {k : Nat} (r : Room k A) : A.units + 65 < cLine := by have := r.un; omega

theorem or_mul : OpR X (binaryOp .Mult) (rI (fun i j => CMul i j ∨ CMulW i j) fun i j => .int (i * j)) := opI fun i j _ _ _ _ _ hc q => mul_int q (hc.elim (·.ok) (·.ok))

theorem or_bin (o : Operator) : OpR X (binaryOp o) (rd2 X.K (wpBin o)) := by
  intro pins s σ H x y v u R I rx ry h
  obtain ⟨dx, dy, S, Q, r1, r2, rs, hw, post⟩ := h
  cases o with
  | Add =>
    cases dx <;> cases dy <;> first | exact hw.elim | skip
    · rename_i i j
      rw [rv_int r1] at rx; rw [rv_int r2] at ry
      exact op_add pins s σ H _ _ v u R I rx ry ⟨i, j, rfl, rfl, post.here rs hw (.i _)⟩
    · rename_i i j
      rw [rv_str r1] at rx; rw [rv_str r2] at ry
      exact op_add_str pins s σ H _ _ v u R I rx ry ⟨i, j, rfl, rfl, by rw [szL_eq]; exact hw.1, post.here rs hw.2 (.s _)⟩
    · rename_i xs ys
      obtain ⟨z1, a, vs, rfl, q1, p1⟩ := rv_tup r1
      obtain ⟨z2, b, ws, rfl, q2, p2⟩ := rv_tup r2
      have hl : vs.length + ws.length ≤ sizeLine := by rw [p1.length, p2.length, szL_eq]; exact hw.1
      have r1' := r1
      refine op_catF pins s σ H _ _ v u R I rx ry ⟨a, b, vs, ws, rfl, rfl, q1, q2, hl, ?_, ?_, ?_⟩
      · intro e
        subst e
        have e' : xs = [] := List.eq_nil_of_length_eq_zero (by rw [← p1.length]; rfl)
        subst e'
        exact post.here rs (by simpa using hw.2) r2
      · intro _ e
        subst e
        have e' : ys = [] := List.eq_nil_of_length_eq_zero (by rw [← p2.length]; rfl)
        subst e'
        exact post.here rs (by simpa using hw.2) r1
      · intro _ _ p ob hp hd
        exact post.newT rs hp hd (by rw [List.length_append]; exact hw.1) (p1.append p2) hw.2
    · rename_i a b
      obtain ⟨xs, ys, e1, e2, hz, hq⟩ := hw
      rw [rv_ref r1] at rx; rw [rv_ref r2] at ry
      obtain ⟨_, vs, h1, p1⟩ := rs.lst e1
      obtain ⟨_, ws, h2, p2⟩ := rs.lst e2
      exact op_cat pins s σ H _ _ v u R I rx ry ⟨a, b, vs, ws, rfl, rfl, h1, h2, by rw [p1.length, p2.length, szL_eq]; exact hz, fun p hp => post.newL rs hp (by rw [List.length_append]; exact hz) (p1.append p2) hq⟩
  | Sub =>
    cases dx <;> cases dy <;> first | exact hw.elim | skip
    rename_i i j
    rw [rv_int r1] at rx; rw [rv_int r2] at ry
    exact op_sub pins s σ H _ _ v u R I rx ry ⟨i, j, rfl, rfl, post.here rs hw (.i _)⟩
  | Mult =>
    cases dx <;> cases dy <;> first | exact hw.elim | skip
    · rename_i i j
      rw [rv_int r1] at rx; rw [rv_int r2] at ry
      exact or_mul pins s σ H _ _ v u R I rx ry ⟨i, j, rfl, rfl, hw.1, post.here rs hw.2 (.i _)⟩
    · rename_i a k
      obtain ⟨xs, e1, hk, hz, hq⟩ := hw
      rw [rv_ref r1] at rx; rw [rv_int r2] at ry
      obtain ⟨_, vs, h1, p1⟩ := rs.lst e1
      exact op_rep pins s σ H _ _ v u R I rx ry ⟨a, k, vs, rfl, rfl, h1, hk.1, hk.2, by rw [p1.length, szL_eq]; exact hz, fun p hp => post.newL rs hp (by simp [List.length_flatten, List.sum_replicate_nat]; rw [Nat.mul_comm]; exact hz) (p1.rep _) hq⟩
  | FloorDiv =>
    cases dx <;> cases dy <;> first | exact hw.elim | skip
    rename_i i j
    rw [rv_int r1] at rx; rw [rv_int r2] at ry
    exact op_fdivW pins s σ H _ _ v u R I rx ry ⟨i, j, rfl, rfl, hw.1, post.here rs hw.2 (.i _)⟩
  | Mod =>
    cases dx <;> cases dy <;> first | exact hw.elim | skip
    rename_i i j
    rw [rv_int r1] at rx; rw [rv_int r2] at ry
    exact op_mod pins s σ H _ _ v u R I rx ry ⟨i, j, rfl, rfl, hw.1, post.here rs hw.2 (.i _)⟩
  | Pow =>
    cases dx <;> cases dy <;> first | exact hw.elim | skip
    rename_i i j
    rw [rv_int r1] at rx; rw [rv_int r2] at ry
    exact op_pow pins s σ H _ _ v u R I rx ry ⟨i, j, rfl, rfl, hw.1, post.here rs hw.2 (.i _)⟩
  | LShift =>
    cases dx <;> cases dy <;> first | exact hw.elim | skip
    rename_i i j
    rw [rv_int r1] at rx; rw [rv_int r2] at ry
    exact op_shl pins s σ H _ _ v u R I rx ry ⟨i, j, rfl, rfl, hw.1, post.here rs hw.2 (.i _)⟩
  | RShift =>
    cases dx <;> cases dy <;> first | exact hw.elim | skip
    rename_i i j
    rw [rv_int r1] at rx; rw [rv_int r2] at ry
    exact op_shr pins s σ H _ _ v u R I rx ry ⟨i, j, rfl, rfl, hw.1, post.here rs hw.2 (.i _)⟩
  | BitAnd =>
    cases dx <;> cases dy <;> first | exact hw.elim | skip
    rename_i i j
    rw [rv_int r1] at rx; rw [rv_int r2] at ry
    exact op_and pins s σ H _ _ v u R I rx ry ⟨i, j, rfl, rfl, post.here rs hw (.i _)⟩
  | BitOr =>
    cases dx <;> cases dy <;> first | exact hw.elim | skip
    rename_i i j
    rw [rv_int r1] at rx; rw [rv_int r2] at ry
    exact op_or pins s σ H _ _ v u R I rx ry ⟨i, j, rfl, rfl, post.here rs hw (.i _)⟩
  | BitXor =>
    cases dx <;> cases dy <;> first | exact hw.elim | skip
    rename_i i j
    rw [rv_int r1] at rx; rw [rv_int r2] at ry
    exact op_xor pins s σ H _ _ v u R I rx ry ⟨i, j, rfl, rfl, post.here rs hw (.i _)⟩
  | MatMult => exact hw.elim
  | Div => exact hw.elim
end
end G


namespace G
open PySem PySem.Spec PyProof.Rows L2

section
variable {X : Cx}
theorem eq_gen (hu : X.A.units + 64 < cLine) {pins : List (Addr × Obj)} {s : Shared} {σ : L2.St} {H : Hp} {x y : V} {v u : Value} {R : VK} {dx dy : D} {S : Sto} {Q : QE} (I : Inv X pins σ H s) (rx : RelV x v) (ry : RelV y u)
    (r1 : RepV X.K H dx x) (r2 : RepV X.K H dy y) (rs : RepS X.K S H) (post : PostE X.K H S Q R)
    (hw : ∃ p q, IsPy S p dx ∧ IsPy S q dy ∧ SeqAt.shaped p = true ∧ SeqAt.shaped q = true ∧ Q (.bl (PyData.eqv p q)) S) : wpAny (model X.prog X.w) X.A (compareOp .Eq v u) (EP X pins σ R) X.xe s := by
  obtain ⟨p, q, h1, h2, s1, s2, hQ⟩ := hw
  exact op_eqD hu pins s σ H x y v u R I rx ry ⟨p, q, h1.rep rs _ _ _ r1, h2.rep rs _ _ _ r2, s1, s2, post.here rs hQ (.b _)⟩
theorem ne_gen (hu : X.A.units + 64 < cLine) {pins : List (Addr × Obj)} {s : Shared} {σ : L2.St} {H : Hp} {x y : V} {v u : Value} {R : VK} {dx dy : D} {S : Sto} {Q : QE} (I : Inv X pins σ H s) (rx : RelV x v) (ry : RelV y u)
    (r1 : RepV X.K H dx x) (r2 : RepV X.K H dy y) (rs : RepS X.K S H) (post : PostE X.K H S Q R)
    (hw : ∃ p q, IsPy S p dx ∧ IsPy S q dy ∧ SeqAt.shaped p = true ∧ SeqAt.shaped q = true ∧ Q (.bl (!PyData.eqv p q)) S) : wpAny (model X.prog X.w) X.A (compareOp .NotEq v u) (EP X pins σ R) X.xe s := by
  obtain ⟨p, q, h1, h2, s1, s2, hQ⟩ := hw
  exact op_neD hu pins s σ H x y v u R I rx ry ⟨p, q, h1.rep rs _ _ _ r1, h2.rep rs _ _ _ r2, s1, s2, post.here rs hQ (.b _)⟩

def rInT (K : PySem.W.Frag) : R2 := fun x y H Q => ∃ d ds, Dp K H x d ∧ Dp K H y (.tuple ds) ∧ SeqAt.shaped d = true ∧ SeqAt.shaped (.tuple ds) = true ∧ Q (.bl (ds.any fun z => PyData.eqv z d)) H
def rNotInT (K : PySem.W.Frag) : R2 := fun x y H Q => ∃ d ds, Dp K H x d ∧ Dp K H y (.tuple ds) ∧ SeqAt.shaped d = true ∧ SeqAt.shaped (.tuple ds) = true ∧ Q (.bl (!ds.any fun z => PyData.eqv z d)) H
theorem room_inT {A : Around} {d : PyData} {ds : List PyData} (h : SeqAt.shaped d = true) (hu : A.units + 65 < cLine) : A.units + 1 + min (PyData.depthAll ds) d.depth < cLine := by
  have h1 := SeqAt.depth_of_shaped h
  have := Nat.min_le_right (PyData.depthAll ds) d.depth
  omega
theorem op_inT (hu : X.A.units + 65 < cLine) : OpR X (compareOp .In) (rInT X.K) := by
  intro pins s σ H x y v u Q I rx ry h
  obtain ⟨d, ds, hd, he, sd, se, q⟩ := h
  obtain ⟨as, r1⟩ := Dp.reads I d x v hd rx
  obtain ⟨bs, r2⟩ := Dp.reads I (.tuple ds) y u he ry
  exact SeqAt.in_tuple_reads r2 r1 (SeqAt.canLay_of_shaped se) (SeqAt.canLay_of_shaped sd) (room_inT sd hu) ⟨.bl _, H, I, rfl, q⟩
theorem op_notInT (hu : X.A.units + 65 < cLine) : OpR X (compareOp .NotIn) (rNotInT X.K) := by
  intro pins s σ H x y v u Q I rx ry h
  obtain ⟨d, ds, hd, he, sd, se, q⟩ := h
  obtain ⟨as, r1⟩ := Dp.reads I d x v hd rx
  obtain ⟨bs, r2⟩ := Dp.reads I (.tuple ds) y u he ry
  exact SeqAt.notIn_tuple_reads r2 r1 (SeqAt.canLay_of_shaped se) (SeqAt.canLay_of_shaped sd) (room_inT sd hu) ⟨.bl _, H, I, rfl, q⟩

mutual
theorem isPy_toPy (S : Sto) : ∀ d : D, pureD d = true → IsPy S (toPy d) d
  | .non, _ => by unfold toPy IsPy; rfl
  | .bl _, _ => by unfold toPy IsPy; rfl
  | .int _, _ => by unfold toPy IsPy; rfl
  | .str _, _ => by unfold toPy IsPy; rfl
  | .tup xs, h => by unfold toPy IsPy; exact ⟨xs, rfl, isPys_toPys S xs (by unfold pureD at h; exact h)⟩
  | .cl xs, h => by unfold toPy IsPy; exact ⟨xs, rfl, isPys_toPys S xs (by unfold pureD at h; exact h)⟩
  | .ref _, h => by unfold pureD at h; cases h
theorem isPys_toPys (S : Sto) : ∀ ds : List D, pureDs ds = true → IsPys S (toPys ds) ds
  | [], _ => by unfold toPys IsPys; rfl
  | d :: ds, h => by
    unfold pureDs at h
    rw [Bool.and_eq_true] at h
    unfold toPys IsPys
    exact ⟨d, ds, rfl, isPy_toPy S d h.1, isPys_toPys S ds h.2⟩
end
theorem reads_pure {pins : List (Addr × Obj)} {s : Shared} {σ : L2.St} {H : Hp} {x : V} {v : Value} {d : D} {S : Sto} (I : Inv X pins σ H s) (rs : RepS X.K S H) (rx : RelV x v) (r : RepV X.K H d x) (hp : pureD d = true) : ∃ as, Reads s.heap v (toPy d) as :=
  Dp.reads I (toPy d) x v (IsPy.rep rs _ _ _ (isPy_toPy S d hp) r) rx
theorem lt_gen (hu : X.A.units + 64 < cLine) {pins : List (Addr × Obj)} {s : Shared} {σ : L2.St} {H : Hp} {x y : V} {v u : Value} {R : VK} {dx dy : D} {S : Sto} {Q : QE} (I : Inv X pins σ H s) (rx : RelV x v) (ry : RelV y u)
    (r1 : RepV X.K H dx x) (r2 : RepV X.K H dy y) (rs : RepS X.K S H) (post : PostE X.K H S Q R) (hc : CmpD dx dy) (hn : toPy dx ≠ .none := by unfold toPy; exact nofun)
    (hw : Q (.bl (ltD dx dy)) S) : wpAny (model X.prog X.w) X.A (compareOp .Lt v u) (EP X pins σ R) X.xe s := by
  obtain ⟨p1, p2, al', d1, d2⟩ := hc
  have al := al'.1 (toPy dx) (by simp) (toPy dy) (by simp)
  obtain ⟨as, ra⟩ := reads_pure I rs rx r1 p1
  obtain ⟨bs, rb⟩ := reads_pure I rs ry r2 p2
  refine PySem.W.rcLt_alike _ _ X.A s v u as bs ra rb al hn ?_ X.prog X.w X.xe _ ⟨.bl _, H, I, rfl, post.here rs hw (.b _)⟩
  have := Nat.min_le_left (toPy dx).depth (toPy dy).depth
  omega
theorem or_cmp (hu : X.A.units + 65 < cLine) (o : CmpOp) : OpR X (compareOp o) (rd2 X.K (wpCmp o)) := by
  intro pins s σ H x y v u R I rx ry h
  obtain ⟨dx, dy, S, Q, r1, r2, rs, hw, post⟩ := h
  have hu0 : X.A.units < cLine := by omega
  have hu4 : X.A.units + 64 < cLine := by omega
  cases o with
  | Eq =>
    cases dx <;> cases dy <;> first | exact eq_gen hu4 I rx ry r1 r2 rs post hw | skip
    · rw [rv_bl r1] at rx; rw [rv_bl r2] at ry
      exact op_eq pins s σ H _ _ v u R I rx ry ⟨rfl, post.here rs (by rw [dec_bl, Bool.beq_eq_decide_eq]; exact hw) (.b _)⟩
    · rw [rv_int r1] at rx; rw [rv_int r2] at ry
      exact op_eq pins s σ H _ _ v u R I rx ry ⟨rfl, post.here rs (by rw [dec_int, Bool.beq_eq_decide_eq]; exact hw) (.b _)⟩
    · rw [rv_str r1] at rx; rw [rv_str r2] at ry
      exact op_eq pins s σ H _ _ v u R I rx ry ⟨rfl, post.here rs (by rw [dec_str, Bool.beq_eq_decide_eq]; exact hw) (.b _)⟩
  | NotEq =>
    cases dx <;> cases dy <;> first | exact ne_gen hu4 I rx ry r1 r2 rs post hw | skip
    · rw [rv_bl r1] at rx; rw [rv_bl r2] at ry
      exact op_ne pins s σ H _ _ v u R I rx ry ⟨rfl, post.here rs (by rw [dec_bl, Bool.beq_eq_decide_eq]; exact hw) (.b _)⟩
    · rw [rv_int r1] at rx; rw [rv_int r2] at ry
      exact op_ne pins s σ H _ _ v u R I rx ry ⟨rfl, post.here rs (by rw [dec_int, Bool.beq_eq_decide_eq]; exact hw) (.b _)⟩
    · rw [rv_str r1] at rx; rw [rv_str r2] at ry
      exact op_ne pins s σ H _ _ v u R I rx ry ⟨rfl, post.here rs (by rw [dec_str, Bool.beq_eq_decide_eq]; exact hw) (.b _)⟩
  | Lt =>
    cases dx <;> cases dy <;> first | exact hw.elim | skip
    · rw [rv_int r1] at rx; rw [rv_int r2] at ry
      exact op_lt pins s σ H _ _ v u R I rx ry ⟨_, _, rfl, rfl, post.here rs hw (.b _)⟩
    · exact lt_gen hu4 I rx ry r1 r2 rs post hw.1 (hw := hw.2)
  | LtE =>
    cases dx <;> cases dy <;> first | exact hw.elim | skip
    rw [rv_int r1] at rx; rw [rv_int r2] at ry
    exact op_le pins s σ H _ _ v u R I rx ry ⟨_, _, rfl, rfl, post.here rs hw (.b _)⟩
  | Gt =>
    cases dx <;> cases dy <;> first | exact hw.elim | skip
    rw [rv_int r1] at rx; rw [rv_int r2] at ry
    exact op_gt pins s σ H _ _ v u R I rx ry ⟨_, _, rfl, rfl, post.here rs hw (.b _)⟩
  | GtE =>
    cases dx <;> cases dy <;> first | exact hw.elim | skip
    rw [rv_int r1] at rx; rw [rv_int r2] at ry
    exact op_ge pins s σ H _ _ v u R I rx ry ⟨_, _, rfl, rfl, post.here rs hw (.b _)⟩
  | Is =>
    obtain ⟨b, e, hq⟩ := hw
    cases dy with
    | non =>
      rw [rv_non r2] at ry
      refine op_isN pins s σ H _ _ v u R I rx ry ⟨rfl, post.here rs ?_ (.b _)⟩
      cases dx with
      | non => rw [rv_non r1]; cases e; exact hq
      | bl i => rw [rv_bl r1]; cases e; exact hq
      | int i => rw [rv_int r1]; cases e; exact hq
      | str i => rw [rv_str r1]; cases e; exact hq
      | tup i => obtain ⟨_, a, vs, rfl, _⟩ := rv_tup r1; cases e; exact hq
      | cl i => obtain ⟨_, a, vs, rfl, _⟩ := rv_cl r1; cases e; exact hq
      | ref i => rw [rv_ref r1]; cases e; exact hq
    | bl j =>
      cases dx with
      | bl i =>
        rw [rv_bl r1] at rx; rw [rv_bl r2] at ry
        cases e
        refine op_isBl pins s σ H _ _ v u R I rx ry ⟨i, j, rfl, rfl, post.here rs ?_ (.b _)⟩
        have e2 : (i == j) = decide (i = j) := Bool.beq_eq_decide_eq i j
        rw [e2] at hq; exact hq
      | _ => cases e
    | _ => cases dx <;> cases e
  | IsNot =>
    obtain ⟨b, e, hq⟩ := hw
    cases dy with
    | non =>
      rw [rv_non r2] at ry
      refine op_notN pins s σ H _ _ v u R I rx ry ⟨rfl, post.here rs ?_ (.b _)⟩
      cases dx with
      | non => rw [rv_non r1]; cases e; exact hq
      | bl i => rw [rv_bl r1]; cases e; exact hq
      | int i => rw [rv_int r1]; cases e; exact hq
      | str i => rw [rv_str r1]; cases e; exact hq
      | tup i => obtain ⟨_, a, vs, rfl, _⟩ := rv_tup r1; cases e; exact hq
      | cl i => obtain ⟨_, a, vs, rfl, _⟩ := rv_cl r1; cases e; exact hq
      | ref i => rw [rv_ref r1]; cases e; exact hq
    | bl j =>
      cases dx with
      | bl i =>
        rw [rv_bl r1] at rx; rw [rv_bl r2] at ry
        cases e
        refine op_notBl pins s σ H _ _ v u R I rx ry ⟨i, j, rfl, rfl, post.here rs ?_ (.b _)⟩
        have e2 : (i == j) = decide (i = j) := Bool.beq_eq_decide_eq i j
        rw [e2] at hq; exact hq
      | _ => cases e
    | _ => cases dx <;> cases e
  | In =>
    cases dy with
    | tup ys =>
      obtain ⟨p, ps, h1, h2, s1, s2, hq⟩ := hw
      exact op_inT hu pins s σ H x y v u R I rx ry ⟨p, ps, h1.rep rs _ _ _ r1, IsPy.rep rs (.tuple ps) _ _ (by unfold IsPy; exact ⟨ys, rfl, h2⟩) r2, s1, s2, post.here rs hq (.b _)⟩
    | cl ys =>
      obtain ⟨p, ps, h1, h2, s1, s2, hq⟩ := hw
      exact op_inD hu pins s σ H x y v u R I rx ry ⟨p, ps, h1.rep rs _ _ _ r1, IsPy.rep rs (.list ps) _ _ (by unfold IsPy; exact ⟨ys, rfl, h2⟩) r2, s1, s2, post.here rs hq (.b _)⟩
    | ref a =>
      obtain ⟨ys, p, ps, hS, h1, h2, s1, s2, hq⟩ := hw
      exact op_inD hu pins s σ H x y v u R I rx ry ⟨p, ps, h1.rep rs _ _ _ r1, IsPy.rep rs (.list ps) _ _ (by unfold IsPy; exact ⟨ys, hS, h2⟩) r2, s1, s2, post.here rs hq (.b _)⟩
    | _ => exact hw.elim
  | NotIn =>
    cases dy with
    | tup ys =>
      obtain ⟨p, ps, h1, h2, s1, s2, hq⟩ := hw
      exact op_notInT hu pins s σ H x y v u R I rx ry ⟨p, ps, h1.rep rs _ _ _ r1, IsPy.rep rs (.tuple ps) _ _ (by unfold IsPy; exact ⟨ys, rfl, h2⟩) r2, s1, s2, post.here rs hq (.b _)⟩
    | cl ys =>
      obtain ⟨p, ps, h1, h2, s1, s2, hq⟩ := hw
      exact op_notInD hu pins s σ H x y v u R I rx ry ⟨p, ps, h1.rep rs _ _ _ r1, IsPy.rep rs (.list ps) _ _ (by unfold IsPy; exact ⟨ys, rfl, h2⟩) r2, s1, s2, post.here rs hq (.b _)⟩
    | ref a =>
      obtain ⟨ys, p, ps, hS, h1, h2, s1, s2, hq⟩ := hw
      exact op_notInD hu pins s σ H x y v u R I rx ry ⟨p, ps, h1.rep rs _ _ _ r1, IsPy.rep rs (.list ps) _ _ (by unfold IsPy; exact ⟨ys, hS, h2⟩) r2, s1, s2, post.here rs hq (.b _)⟩
    | _ => exact hw.elim
end

section
variable {X : Cx}
theorem atI_rep {K : PySem.W.Frag} {H : Hp} {ds : List D} {vs : List V} {i : Int} {d : D} (r : RepVs K H ds vs) (h : atI ds i = some d) : ∃ v, atI vs i = some v ∧ RepV K H d v := by
  unfold atI at h ⊢
  rw [r.length]
  cases e : ixN ds.length i with
  | none => rw [e] at h; cases h
  | some j =>
    rw [e] at h
    exact r.get h
theorem ix_ok : IxR X (rd2 X.K wpIx) := by
  intro value slice pins s σ H x y v u R I rx ry h hs
  obtain ⟨dx, dy, S, Q, r1, r2, rs, ⟨xs, i, d, hx, rfl, hi, hq⟩, post⟩ := h
  rw [rv_int r2] at ry
  obtain ⟨_, a, vs, rfl, hv, rv⟩ := hx.rep rs r1
  obtain ⟨z, hz, rz⟩ := atI_rep rv hi
  rcases hv with hv | hv
  · exact ix_list value slice pins s σ H _ _ v u R I rx ry ⟨a, vs, i, z, rfl, rfl, hv, hz, post.here rs hq rz⟩ hs
  · exact ix_tup value slice pins s σ H _ _ v u R I rx ry ⟨a, vs, i, z, rfl, rfl, hv, hz, post.here rs hq rz⟩ hs
/-- x[i] by values, ahead of x[i] op= y -/
theorem get_ok : PGet X (rd2 X.K wpIx) := by
  intro pins s σ H x y v u R I rx ry h
  obtain ⟨dx, dy, S, Q, r1, r2, rs, ⟨xs, i, d, hx, rfl, hi, hq⟩, post⟩ := h
  rw [rv_int r2] at ry
  obtain ⟨_, a, vs, rfl, hv, rv⟩ := hx.rep rs r1
  obtain ⟨z, hz, rz⟩ := atI_rep rv hi
  cases rx
  obtain ⟨t, rfl⟩ := ry
  obtain ⟨j, h1, h2, h3, h4, h5⟩ := atI_get hz
  have hn := line63
  rcases hv with hv | hv
  · obtain ⟨its, r, pl, hz⟩ := I.list hv
    obtain ⟨w, ew, rw'⟩ := r.get h2
    have hl := r.length
    have fin : EP X pins σ R w s := ⟨z, H, I, rw', post.here rs hq rz⟩
    by_cases h0 : 0 ≤ i
    · have hj : i.toNat = j := by
        rw [seqIndex_of h0 h5] at h1
        exact Option.some.inj h1
      exact wpAny_getItem_list pl.isList h0 (by omega) (by rw [hj]; simpa using ew) fin
    · have hj : (i + (its.toArray.size : Int)).toNat = j := by
        rw [seqIndex_neg (by omega) h4] at h1
        rw [List.size_toArray, ← hl]
        exact Option.some.inj h1
      exact wpAny_getItem_list_neg pl.isList (by omega) (by rw [List.size_toArray] <;> omega) (by omega) (by rw [hj]; simpa using ew) fin
  · obtain ⟨its, r, pl, hz⟩ := I.tuple hv
    obtain ⟨w, ew, rw'⟩ := r.get h2
    have hl := r.length
    exact getItem_tuple (j := j) pl (by omega) (by omega) (by rw [List.size_toArray, ← hl]; exact h1) (by simpa using ew) ⟨z, H, I, rw', post.here rs hq rz⟩
/-- x[i] = v of a list, by values -/
def rSetD (K : PySem.W.Frag) : TSet := fun o i v H R => ∃ (a : Addr) (ds : List D) (k : Int) (j : Nat) (d : D) (S : Sto) (Q : Sto → Prop), o = .ref a ∧ i = .int k ∧ S a = some (.lst ds) ∧ ixN ds.length k = some j ∧ RepV K H d v ∧ RepS K S H ∧ Q (sup S a (.lst (ds.set j d))) ∧
  ∀ S' H', Q S' → Ext H S H' S' → RepS K S' H' → R H'
theorem set_ok : PSet X (rSetD X.K) := by
  intro pins s σ H o i v ov iv u R I ro ri rv h
  obtain ⟨a, ds, k, j, d, S, Q, rfl, rfl, hS, hj, rd, rs, hq, post⟩ := h
  obtain ⟨hz, vs, hH, rvs⟩ := rs.lst hS
  refine set_list pins s σ H _ _ v ov iv u R I ro ri rv ⟨a, vs, k, j, rfl, rfl, hH, by rw [rvs.length]; exact hj, post _ _ hq (Ext.put hS) (rs.put hS ?_)⟩
  refine ⟨by rw [List.length_set]; exact hz, vs.set j v, upd_same, RepVs.mono (TX.put rs hS) _ _ (rvs.set j rd)⟩
end

section
variable {X : Cx}
theorem cutD_rep {K : PySem.W.Frag} {H : Hp} {ds : List D} {vs : List V} {lo hi : Option Int} (r : RepVs K H ds vs) : RepVs K H (cutD ds lo hi) (cutV vs lo hi) := by
  unfold cutD cutV
  rw [r.length]
  exact (r.drop _).take _
theorem cutD_le (xs : List D) (lo hi : Option Int) : (cutD xs lo hi).length ≤ xs.length := by
  unfold cutD
  rw [List.length_take, List.length_drop]
  omega
theorem cutD_whole {xs : List D} {lo hi : Option Int} (h : HT.sIx xs.length 0 lo = 0 ∧ HT.sIx xs.length xs.length hi = xs.length) : cutD xs lo hi = xs := by
  unfold cutD
  rw [h.1, h.2]
  simp
def rdSl (K : PySem.W.Frag) : V → Option Int → Option Int → Hp → VK → Prop := fun x lo hi H R => ∃ dx S Q, RepV K H dx x ∧ RepS K S H ∧ wpSl dx lo hi S Q ∧ PostE K H S Q R
theorem sl_ok : SlR X (rdSl X.K) := by
  intro pins s σ H x v vl vu lo hi sl R I rx hs pl pu h
  obtain ⟨dx, S, Q, r1, rs, hw, post⟩ := h
  cases dx with
  | tup xs =>
    obtain ⟨z, a, vs, rfl, q1, p1⟩ := rv_tup r1
    refine sl_tupF pins s σ H _ v vl vu lo hi sl R I rx hs pl pu ⟨a, vs, rfl, q1, fun hw' => ?_, fun hw' p ob hp hd => ?_⟩
    · rw [p1.length] at hw'
      have hw : Q (.tup (cutD xs lo hi)) S := hw
      rw [cutD_whole hw'] at hw
      exact post.here rs hw r1
    · exact post.newT rs hp hd (Nat.le_trans (cutD_le _ _ _) z) (cutD_rep p1) hw
  | cl xs =>
    obtain ⟨z, a, vs, rfl, q1, p1⟩ := rv_cl r1
    exact sl_list pins s σ H _ v vl vu lo hi sl R I rx hs pl pu ⟨a, vs, rfl, q1.sq, fun p hp => post.newL rs hp (Nat.le_trans (cutD_le _ _ _) z) (cutD_rep p1) hw⟩
  | ref a =>
    obtain ⟨xs, e1, hq⟩ := hw
    rw [rv_ref r1] at rx
    obtain ⟨z, vs, h1, p1⟩ := rs.lst e1
    exact sl_list pins s σ H _ v vl vu lo hi sl R I rx hs pl pu ⟨a, vs, rfl, .of h1, fun p hp => post.newL rs hp (Nat.le_trans (cutD_le _ _ _) z) (cutD_rep p1) hq⟩
  | _ => exact hw.elim
end
end G


namespace G
open PySem PySem.Spec PyProof.Rows L2

section
variable {prog : Program} {w : World} {A : Around} {E : Value → Shared → Prop} {s : Shared}
/-- the end of such a slice: left out, or 0 -/
def revHi : Nat → Option Int
  | 0 => none
  | _ => some 0
theorem revPlaces (n k : Nat) (hk : k ≤ 1) : ∃ lo hi : Int, Builtin.Slice.sliceAdjust none (revHi k) (-1) (n : Int) = (lo, hi) ∧ lo = (n : Int) - 1 ∧ Builtin.Slice.slicePlaces lo hi (-1) = n - k := by
  refine ⟨(Builtin.Slice.sliceAdjust none (revHi k) (-1) (n : Int)).1, (Builtin.Slice.sliceAdjust none (revHi k) (-1) (n : Int)).2, rfl, ?_, ?_⟩
  · unfold Builtin.Slice.sliceAdjust
    simp
  · match k, hk with
    | 0, _ =>
      unfold Builtin.Slice.sliceAdjust Builtin.Slice.slicePlaces revHi
      simp
      split <;> omega
    | 1, _ =>
      unfold Builtin.Slice.sliceAdjust Builtin.Slice.slicePlaces revHi
      simp
      split <;> omega
theorem fm_congr {α β : Type} {f g : α → Option β} : ∀ l : List α, (∀ a ∈ l, f a = g a) → l.filterMap f = l.filterMap g
  | [], _ => rfl
  | a :: l, h => by
    rw [List.filterMap_cons, List.filterMap_cons, h a (by simp), fm_congr l fun b hb => h b (by simp [hb])]
theorem revPick (xs : Array Value) (k : Nat) : ((List.range (xs.size - k)).filterMap fun (m : Nat) => xs[(((xs.size : Int) - 1) + (m : Int) * (-1)).toNat]?).toArray = (xs.toList.drop k).reverse.toArray := by
  congr 1
  apply List.ext_getElem?
  intro i
  have e : ((List.range (xs.size - k)).filterMap fun (m : Nat) => xs[(((xs.size : Int) - 1) + (m : Int) * (-1)).toNat]?) = (List.range (xs.size - k)).map fun (m : Nat) => xs.getD (xs.size - 1 - m) .none := by
    rw [← List.filterMap_eq_map]
    refine fm_congr _ fun m hm => ?_
    have hm' := List.mem_range.mp hm
    have e1 : (((xs.size : Int) - 1) + (m : Int) * (-1)).toNat = xs.size - 1 - m := by omega
    rw [e1]
    have h2 : xs.size - 1 - m < xs.size := by omega
    simp [Array.getD, h2]
  rw [e]
  by_cases hi : i < xs.size - k
  · rw [List.getElem?_map, List.getElem?_range hi, List.getElem?_reverse (by simpa using hi)]
    have h2 : xs.size - 1 - i < xs.size := by omega
    simp [Array.getD, h2, List.getElem?_drop]
    have e3 : k + (xs.size - k - 1 - i) = xs.size - 1 - i := by omega
    rw [e3]
    simp [h2]
  · rw [List.getElem?_eq_none (by simp; omega), List.getElem?_eq_none (by simp; omega)]
theorem sliceApplied_rev {sl : Addr} {vu : Value} {u : Tok} {k n : Nat} {Q : Int × Int × Nat → Shared → Prop} (hk : k ≤ 1) (hs : s.heap.IsSliceOf sl .none vu (.int (-1) u)) (pu : IsPart vu (revHi k))
    (h : Q ((n : Int) - 1, -1, n - k) s) : wpAny (model prog w) A (Builtin.Slice.sliceApplied (.ref sl) (pure (n : Int))) Q E s := by
  obtain ⟨os, hos, hcs, hds⟩ := id hs
  unfold Builtin.Slice.sliceApplied Builtin.Slice.sliceFields
  refine wpAny_bind (wpAny_bind (wpAny_field hos hds (x := .none) rfl (wpAny_bind (wpAny_field hos hds (x := vu) rfl (wpAny_bind (wpAny_field hos hds (x := .int (-1) u) rfl (wpAny_pure ?_)))))))
  refine wpAny_bind (slicePart_int ?_)
  show wpAny _ _ (if ((-1 : Int) == 0) = true then _ else _) _ _ s
  rw [if_neg (by decide)]
  refine wpAny_bind (slicePart_none (wpAny_bind (HT.slicePart_ pu (wpAny_bind (wpAny_pure ?_)))))
  obtain ⟨lo, hi, e, e1, e2⟩ := revPlaces n k hk
  show wpAny _ _ (match Builtin.Slice.sliceAdjust none (revHi k) (-1) (n : Int) with | (lo, hi) => pure (lo, (-1 : Int), Builtin.Slice.slicePlaces lo hi (-1))) _ _ s
  rw [e]
  show wpAny _ _ (pure (lo, (-1 : Int), Builtin.Slice.slicePlaces lo hi (-1))) _ _ s
  rw [e2, e1]
  exact wpAny_pure h
theorem getItem_tuple_rev {t sl : Addr} {items : Array Value} {vu : Value} {u : Tok} {k : Nat} {Q : Value → Shared → Prop} (hk : k ≤ 1) (ht : IsTup s.heap t items) (hs : s.heap.IsSliceOf sl .none vu (.int (-1) u)) (pu : IsPart vu (revHi k))
    (h : Q (.ref s.heap.objs.size) { s with heap := s.heap.push { cls := .type "tuple", data := .seq (items.toList.drop k).reverse.toArray } })
    (hsz : items.size ≤ sizeLine) : wpAny (model prog w) A (getItem (.ref t) (.ref sl)) Q E s := by
  have htake : sizeOk (.seq (items.toList.drop k).reverse.toArray) := by
    show (items.toList.drop k).reverse.toArray.size ≤ sizeLine
    rw [List.size_toArray, List.length_reverse, List.length_drop, Array.length_toList]
    omega
  obtain ⟨os, hos, hcs, hds⟩ := id hs
  have hTs : s.TypeIs (.ref sl) "slice" := ⟨os, hos, hcs⟩
  unfold getItem
  try with_reducible refine wpAny_holding ?_
  first | refine wpAny_bind (wpAny_pure ?_) | skip
  refine wpAny_bind (wpAny_sequenceKey ht.typeIs (by decide) ?_)
  refine wpAny_bind (wpAny_callSpecial?_slot (name := Str.ofString "__getitem__") ht.typeIs PyProof.Rows.slot_tuple_getitem
    (wpAny_call_entry PyProof.Rows.slot_tuple_getitem ht.typeIs entry_tuple_getitem ?_ (args_tuple_getitem _ _)))
  show wpAny _ _ (Builtin.Tuple.tupleItemsOf (.ref t) >>= _) _ _ s
  refine wpAny_bind (tupleItemsOf_ ht ?_)
  refine wpAny_bind (wpAny_typeOf hTs ?_)
  rw [if_pos (by decide)]
  refine wpAny_bind (sliceApplied_rev hk hs pu ?_)
  have hno : ¬ ((((items.size : Int) - 1) == 0 && (-1 : Int) == 1 && (items.size - k) == items.size) = true) := by
    intro q
    rw [Bool.and_eq_true, Bool.and_eq_true] at q
    exact absurd q.1.2 (by decide)
  show wpAny _ _ (if (((items.size : Int) - 1) == 0 && (-1 : Int) == 1 && (items.size - k) == items.size) = true then _ else _) _ _ s
  rw [if_neg hno, revPick]
  first
    | exact wpAny_bind (m := Builtin.Tuple.tupleExact _) (wpAny_newObj_type (wpAny_pure ⟨_, rfl, wpAny_pure h⟩) htake)
    | exact wpAny_bind (m := Builtin.Tuple.tupleExact _) (wpAny_newObj_type (wpAny_bind (wpAny_pure (wpAny_pure ⟨_, rfl, wpAny_pure h⟩))) htake)
    | exact wpAny_bind (wpAny_bind (m := Builtin.Tuple.tupleExact _) (wpAny_newObj_type (wpAny_pure (wpAny_pure ⟨_, rfl, wpAny_pure h⟩)) htake))
    | exact wpAny_bind (wpAny_bind (m := Builtin.Tuple.tupleExact _) (wpAny_newObj_type (wpAny_pure ⟨_, rfl, wpAny_pure h⟩) htake))
end
section
variable {X : Cx}
/-- the slice's end as it is written -/
inductive RevHi : Nat → Option Expr → Prop
  | all : RevHi 0 none
  | one {k p} : RevHi 1 (some (.Constant (.int 0) k p))
theorem RevHi.po {k : Nat} {e : Option Expr} (h : RevHi k e) : PO X e (fun _ H Q => Q (revHi k) H) := by
  cases h with
  | all => exact po_none
  | one =>
    rename_i k p
    have q := po_some (X := X) (pe_int (X := X) (i := 0) (j := k) (pos := p))
    exact ⟨fun pins s σ H Q I hq => q.run pins s σ H Q I ⟨0, rfl, hq⟩⟩
theorem RevHi.le {k : Nat} {e : Option Expr} (h : RevHi k e) : k ≤ 1 := by cases h <;> omega
def tRevT (K : PySem.W.Frag) (k : Nat) (te : TE) : TE := fun σ H Q => te σ H fun x H1 => ∃ a xs, x = .ref a ∧ SqT K H1 a xs ∧ ∀ p ob, H1 p = none → ob.dict = none → Q (.ref p) (upd H1 p (.frz ob (.tup (xs.drop k).reverse)))
theorem pe_revT {e : Expr} {te : TE} {k j : Nat} {he' : Option Expr} {p1 p2 p3 pos : Pos} (rh : RevHi k he') (he : PE X e te) : PE X (.Subscript e (.Slice none he' (some (.UnaryOp .USub (.Constant (.int 1) j p1) p2)) p3) pos) (tRevT X.K k te) := by
  refine ⟨fun pins s σ H Q I h => ?_⟩
  refine Subscript_ (thn (he.run pins s σ H _ I h) fun v s1 ⟨x, H1, I1, r1, q1⟩ => ?_)
  obtain ⟨a, xs, ex, hx, q⟩ := q1
  subst ex
  cases r1
  have hst : PO X (some (.UnaryOp .USub (.Constant (.int 1) j p1) p2)) (tPart (tUn (rU fun i => .int (-i)) (tC (.int 1)))) := po_some (pe_un un_neg pe_int)
  refine wpAny_Slice (thn (po_none.run pins s1 σ H1 (fun o H2 => o = none ∧ H2 = H1) I1 ⟨rfl, rfl⟩) fun vl s2 ⟨l, H2, I2, pl, el, e2⟩ => ?_)
  subst el e2
  refine thn (rh.po.run pins s2 σ H2 (fun o H3 => o = revHi k ∧ H3 = H2) I2 ⟨rfl, rfl⟩) fun vu s3 ⟨u, H3, I3, pu, eu, e3⟩ => ?_
  subst eu e3
  refine thn (hst.run pins s3 σ H3 (fun o H4 => o = some (-1) ∧ H4 = H3) I3 ⟨1, rfl, -1, rfl, rfl, rfl⟩) fun vs s4 ⟨o, H4, I4, ps, eo, e4⟩ => ?_
  subst eo e4
  have I5 : Inv X pins σ H4 { s4 with heap := s4.heap.push { cls := .type "slice", data := .fields #[vl, vu, vs] } } := I4.kept (t' := s4.toks) fun b ob q => Heap.get?_push_of_some _ q
  obtain ⟨its, r, ht, hz⟩ := I5.tuple hx
  have hlen := r.length
  show wpAny (model X.prog X.w) X.A (subscriptTail e (.Slice none he' (some (.UnaryOp .USub (.Constant (.int 1) j p1) p2)) p3) (.ref a) (.ref s4.heap.objs.size)) (EP X pins σ Q) X.xe { s4 with heap := s4.heap.push { cls := .type "slice", data := .fields #[vl, vu, vs] } }
  refine tail_any (ops := [.ref a, .ref s4.heap.objs.size]) ht.typeIs (PyProof.Rows.slot_tuple_getitem.lookup) ?_ (by with_unfolding_all rfl)
  cases pl
  obtain ⟨t, rfl⟩ : ∃ t, vs = .int (-1) t := by cases ps; exact ⟨_, rfl⟩
  refine getItem_tuple_rev rh.le ht (Heap.IsSliceOf.new _ .none vu (.int (-1) t)) pu ?_ (by rw [List.size_toArray]; omega)
  have rr := (r.drop k).reverse
  exact ⟨.ref _, _, I5.laid (t' := s4.toks) (o := .frz { cls := .type "tuple", data := .seq (its.drop k).reverse.toArray } (.tup (xs.drop k).reverse)) (fun b ob q => Heap.get?_push_of_some _ q) (Nat.le_refl _)
    (frz_new (by rw [List.length_reverse, List.length_drop]; omega) rr (Heap.get?_push_size _ rfl) rfl rfl), rfl, q _ _ (I5.hok.fresh (Nat.le_refl _)) rfl⟩
end
end G


namespace G
open PySem PySem.Spec PyProof.Rows L2

theorem intsAre_vals' : ∀ {ns : List Int} {us : List Value}, Vals (ns.map V.int) us → IntsAre us ns := fun {ns us} r => Vals.ints r
section
variable {X : Cx} {pins : List (Addr × Obj)} {σ : L2.St} {H : Hp} {s : Shared}
theorem readsAll_pure {S : Sto} (I : Inv X pins σ H s) (rs : RepS X.K S H) : ∀ {ds : List D} {vs : List V} {us : List Value}, RepVs X.K H ds vs → Vals vs us → (∀ d ∈ ds, pureD d = true) → ∃ as, ReadsAll s.heap us (ds.map toPy) as
  | [], vs, us, r, rv, _ => by
    rw [r.nil_inv] at rv
    cases rv
    exact ⟨_, ReadsAll.nil⟩
  | d :: ds, vs, us, r, rv, hp => by
    obtain ⟨v, vr, rfl, r1, r2⟩ := r.cons_inv
    cases rv with
    | cons q1 q2 =>
      obtain ⟨as, h1⟩ := reads_pure I rs q1 r1 (hp d (by simp))
      obtain ⟨bs, h2⟩ := readsAll_pure I rs r2 q2 fun e he => hp e (by simp [he])
      exact ⟨_, ReadsAll.cons h1 h2⟩
/-- a value of the model stands for a tree -/
def RelD (K : PySem.W.Frag) (H : Hp) (u : Value) (d : D) : Prop := ∃ v, RelV v u ∧ RepV K H d v
theorem eachRel {K : PySem.W.Frag} : ∀ {ds : List D} {vs : List V} {us : List Value}, RepVs K H ds vs → Vals vs us → PySem.W.EachIs (RelD K H) us ds
  | [], vs, us, r, rv => by
    rw [r.nil_inv] at rv
    cases rv
    exact .nil
  | d :: ds, vs, us, r, rv => by
    obtain ⟨v, vr, rfl, r1, r2⟩ := r.cons_inv
    cases rv with
    | cons q1 q2 => exact .cons ⟨v, q1, r1⟩ (eachRel r2 q2)
theorem ofEach {K : PySem.W.Frag} : ∀ {us : List Value} {ds : List D}, PySem.W.EachIs (RelD K H) us ds → ∃ vs, RepVs K H ds vs ∧ Vals vs us
  | [], [], .nil => ⟨[], .nil, .nil⟩
  | _ :: _, _ :: _, .cons ⟨v, q, r⟩ e => let ⟨vs, a, b⟩ := ofEach e; ⟨v :: vs, .cons r a, .cons q b⟩
theorem eachReads {S : Sto} (I : Inv X pins σ H s) (rs : RepS X.K S H) : ∀ {us : List Value} {ds : List D}, PySem.W.EachIs (RelD X.K H) us ds → (∀ d ∈ ds, pureD d = true) → PySem.W.EachIs (fun v b => ∃ as, Reads s.heap v (toPy b) as) us ds
  | [], [], .nil, _ => .nil
  | _ :: _, _ :: _, .cons ⟨v, q, r⟩ e, hp => .cons (reads_pure I rs q r (hp _ (by simp))) (eachReads I rs e fun d hd => hp d (by simp [hd]))
end

section
variable {prog : Program} {w : World} {A : Around} {E : Value → Shared → Prop} {s : Shared} {l : Addr} {its : List Value} {ns : List Int} {Q : Value → Shared → Prop}
theorem preSum_getD (ns : List Int) : ∀ j, j ≤ ns.length → preSum (fun i => ns.getD i 0) j = (ns.take j).sum
  | 0, _ => by simp [preSum]
  | j + 1, h => by
    have hj : j < ns.length := by omega
    rw [preSum, preSum_getD ns j (by omega), List.take_add_one, List.sum_append, List.getElem?_eq_getElem hj]
    simp [List.getD, hj]
theorem intsAre_at : ∀ {us : List Value} {ns : List Int}, IntsAre us ns → ∀ {i : Nat} {v : Value}, us[i]? = some v → ∃ t, v = .int (ns.getD i 0) t
  | _, _, .nil, i, v, e => by simp at e
  | _, _, .cons n t h, 0, v, e => by simp at e; subst e; exact ⟨t, by simp⟩
  | _, _, .cons n t h, i + 1, v, e => by
    obtain ⟨t', e'⟩ := intsAre_at h (i := i) (v := v) (by simpa using e)
    exact ⟨t', by simpa using e'⟩
theorem sum_rawT (hh : A.handled = none) (hl : s.heap.IsTuple l its.toArray) (hi : IntsAre its ns)
    (h : ∀ h' tk t', (∀ b o, s.heap.get? b = some o → h'.get? b = some o) → Q (.int ns.sum t') { s with heap := h', toks := tk }) : wpAny (model prog w) A (call (.builtin "sum") [.ref l]) Q E s := by
  have hlt : l < s.heap.objs.size := by obtain ⟨_, e, _⟩ := hl; exact Heap.lt_size e
  have hn := hi.length
  refine call_sum_walkG (wpAny_pyIter_tuple hl ?_)
  refine ⟨s.heap.objs.size, _, _, _, _, _, fun i => ns.getD i 0, rfl, Walks.tuple (A := A.in1) hh _ l (Nat.ne_of_lt hlt) its.toArray, ⟨⟨_, Heap.get?_push_size _ rfl, rfl, rfl⟩, hl.push _⟩, fun b hb => ?_, fun i v hv => ?_, fun h' tk t' hk => ?_⟩
  · show b < (s.heap.push _).objs.size
    rw [Heap.size_push]
    rcases List.mem_cons.mp hb with rfl | hb
    · exact Nat.lt_succ_self _
    · rcases List.mem_cons.mp hb with rfl | hb
      · exact Nat.lt_succ_of_lt hlt
      · cases hb
  · exact intsAre_at hi (by simpa using hv)
  · have e : its.toArray.size = ns.length := by rw [List.size_toArray, hn]
    rw [e, preSum_getD ns _ (Nat.le_refl _), List.take_length]
    exact h h' tk t' fun b o eb => hk b o (by
      intro hm
      have := List.mem_singleton.mp hm
      subst this
      exact absurd (Heap.lt_size eb) (Nat.lt_irrefl _)) (Heap.get?_push_of_some _ eb)
theorem foldMin : ∀ (ns : List Int) (n : Int), (ns.foldl min n ∈ n :: ns) ∧ ∀ y ∈ n :: ns, ns.foldl min n ≤ y
  | [], n => ⟨by simp, fun y hy => by simp at hy; subst hy; exact Int.le_refl _⟩
  | m :: ns, n => by
    obtain ⟨h1, h2⟩ := foldMin ns (min n m)
    rw [List.foldl_cons]
    refine ⟨?_, fun y hy => ?_⟩
    · rcases List.mem_cons.mp h1 with e | e
      · rw [e]
        rcases Int.le_total n m with q | q
        · rw [Int.min_eq_left q]; simp
        · rw [Int.min_eq_right q]; simp
      · simp [e]
    · have hm := h2 (min n m) (by simp)
      rcases List.mem_cons.mp hy with rfl | hy
      · exact Int.le_trans hm (Int.min_le_left _ _)
      · rcases List.mem_cons.mp hy with rfl | hy
        · exact Int.le_trans hm (Int.min_le_right _ _)
        · exact h2 y (by simp [hy])
theorem foldMax : ∀ (ns : List Int) (n : Int), (ns.foldl max n ∈ n :: ns) ∧ ∀ y ∈ n :: ns, y ≤ ns.foldl max n
  | [], n => ⟨by simp, fun y hy => by simp at hy; subst hy; exact Int.le_refl _⟩
  | m :: ns, n => by
    obtain ⟨h1, h2⟩ := foldMax ns (max n m)
    rw [List.foldl_cons]
    refine ⟨?_, fun y hy => ?_⟩
    · rcases List.mem_cons.mp h1 with e | e
      · rw [e]
        rcases Int.le_total n m with q | q
        · rw [Int.max_eq_right q]; simp
        · rw [Int.max_eq_left q]; simp
      · simp [e]
    · have hm := h2 (max n m) (by simp)
      rcases List.mem_cons.mp hy with rfl | hy
      · exact Int.le_trans (Int.le_max_left _ _) hm
      · rcases List.mem_cons.mp hy with rfl | hy
        · exact Int.le_trans (Int.le_max_right _ _) hm
        · exact h2 y (by simp [hy])
theorem reads_ints {h : Heap} : ∀ {us : List Value} {ns : List Int}, IntsAre us ns → ∃ as, ReadsAll h us (ns.map PyData.int) as
  | _, _, .nil => ⟨_, .nil⟩
  | _, _, .cons n t q => let ⟨_, r⟩ := reads_ints q; ⟨_, .cons (.int n t) r⟩
theorem alike_is (ns : List Int) : PySem.W.AlikeAll (ns.map PyData.int) := by
  refine ⟨fun x hx y hy => ?_, fun x hx => ?_⟩
  · obtain ⟨i, _, rfl⟩ := List.mem_map.mp hx
    obtain ⟨j, _, rfl⟩ := List.mem_map.mp hy
    rfl
  · obtain ⟨i, _, rfl⟩ := List.mem_map.mp hx
    exact nofun
theorem min_rawT (hh : A.handled = none) (hu : A.units + 1 < cLine) (hl : s.heap.IsTuple l its.toArray) (hi : IntsAre its ns) (hne : ns ≠ [])
    (h : ∀ h' tk M t', (∀ b o, s.heap.get? b = some o → h'.get? b = some o) → M ∈ ns → (∀ a, a ∈ ns → M ≤ a) → Q (.int M t') { s with heap := h', toks := tk }) : wpAny (model prog w) A (call (.builtin "min") [.ref l]) Q E s := by
  cases ns with
  | nil => exact absurd rfl hne
  | cons n ns =>
    obtain ⟨as, r⟩ := reads_ints (h := s.heap) hi
    refine PySem.W.min_tuple_data hh hl (x := .int n) (xs := ns.map .int) (by simpa using r) (alike_is (n :: ns)) (by rw [show (PyData.int n :: ns.map PyData.int) = (n :: ns).map .int from rfl, PySem.W.depth_ints]; exact hu) fun i v h' tk bs _ rd hk => ?_
    rw [PySem.W.minD_ints] at rd
    cases rd with
    | int _ t =>
      obtain ⟨h1, h2⟩ := foldMin ns n
      exact h h' tk _ t hk h1 h2
theorem max_rawT (hh : A.handled = none) (hu : A.units + 1 < cLine) (hl : s.heap.IsTuple l its.toArray) (hi : IntsAre its ns) (hne : ns ≠ [])
    (h : ∀ h' tk M t', (∀ b o, s.heap.get? b = some o → h'.get? b = some o) → M ∈ ns → (∀ a, a ∈ ns → a ≤ M) → Q (.int M t') { s with heap := h', toks := tk }) : wpAny (model prog w) A (call (.builtin "max") [.ref l]) Q E s := by
  cases ns with
  | nil => exact absurd rfl hne
  | cons n ns =>
    obtain ⟨as, r⟩ := reads_ints (h := s.heap) hi
    refine PySem.W.max_tuple_data hh hl (x := .int n) (xs := ns.map .int) (by simpa using r) (alike_is (n :: ns)) (by rw [show (PyData.int n :: ns.map PyData.int) = (n :: ns).map .int from rfl, PySem.W.depth_ints]; exact hu) fun i v h' tk bs _ rd hk => ?_
    rw [PySem.W.maxD_ints] at rd
    cases rd with
    | int _ t =>
      obtain ⟨h1, h2⟩ := foldMax ns n
      exact h h' tk _ t hk h1 h2

/-- min(a, b) of two data -/
theorem call_min_twoH {a b : Value} {Q : Value → Shared → Prop}
    (h : wpAny (model prog w) A.in1 (pyIter (.ref s.heap.objs.size)) (fun it s₂ => ∃ I fp wr G n P St H bt, it = .ref I ∧ WalksS prog w A.in1 I fp wr G n P St ∧ St 0 s₂ ∧ (∀ b ∈ fp, b < s₂.heap.objs.size) ∧ 0 < n ∧
      (∀ b o, H.get? b = some o → b ∉ wr) ∧ (∀ b o, H.get? b = some o → s₂.heap.get? b = some o) ∧ CmpIn prog w A.in1 .Lt H P bt ∧ ∀ v s', P (argBest bt (n - 1)) v → Moved wr G s₂ s' → Q v s') E
      { s with heap := s.heap.push { cls := .type "tuple", data := .seq #[a, b] } }) :
    wpAny (model prog w) A (call (.builtin "min") [a, b]) Q E s := by
  have hname : (toString "min" ++ toString ".loop" : String) = "min.loop" := by decide
  refine call_function_tree F.kind_min F.plain_min F.entry_min (F.args_min2 _ _) ?_
  show wpAny _ A.in1 (Builtin.Builtins.bindParams "min" ["key", "default"] 0 ⟨[], []⟩ >>= _) _ _ s
  refine wpAny_bind (wpAny_of_eq (show Builtin.Builtins.bindParams "min" ["key", "default"] 0 ⟨[], []⟩ = pure [none, none] from rfl) ?_)
  show wpAny _ A.in1 (newTuple [a, b] >>= _) _ _ s
  refine wpAny_bind (wpAny_newObj_type ?_)
  refine wpAny_bind (wpAny_mono h (fun it s₂ h₂ => ?_) fun _ _ e => e)
  obtain ⟨I, fp, wr, G, n, P, St, H, bt, rfl, W, hst, hfp, hn, hw, hkeep, hcmp, hQ⟩ := h₂
  refine wpAny_bind (wpAny_newObj_type ?_)
  have hSf : s₂.heap.objs.size ∉ fp := fun hm => Nat.lt_irrefl _ (hfp _ hm)
  rw [hname]
  refine wpAny_pure ⟨plainId_quiet F.plain_min_loop _, codeAny_min_loop_firstH W H hw bt hcmp s₂.heap.objs.size hSf (fresh_in hkeep) _ hn (fun b o e => Heap.get?_push_of_some _ (hkeep b o e)) (W.frame 0 s₂ _ s₂.toks hst (Nat.le_refl _) fun b _ o e => Heap.get?_push_of_some _ e) (Heap.get?_push_size _ rfl) fun v s' hP hm => ?_⟩
  exact hQ v s' hP (Moved.drop_new (tk := s₂.toks) hm (Nat.le_refl _))
theorem min_two_data {a b : Value} {x y : PyData} {as bs : List Addr} {Q : Value → Shared → Prop} (hh : A.handled = none) (ra : Reads s.heap a x as) (rb : Reads s.heap b y bs) (al : PySem.W.AlikeAll [x, y]) (hu : A.units + 1 + PyData.depthAll [x, y] < cLine)
    (h : ∀ h' tk, (∀ b o, s.heap.get? b = some o → h'.get? b = some o) → Q (if PySem.W.dataLt y x = true then b else a) { s with heap := h', toks := tk }) : wpAny (model prog w) A (call (.builtin "min") [a, b]) Q E s := by
  have ht : (s.heap.push { cls := .type "tuple", data := .seq #[a, b] }).IsTuple s.heap.objs.size #[a, b] := ⟨_, Heap.get?_push_size _ rfl, rfl, _, rfl⟩
  have hr : ReadsAll (s.heap.push { cls := .type "tuple", data := .seq #[a, b] }) [a, b] [x, y] (as ++ (bs ++ [])) := .cons (PyProof.Rows.Reads.keeps (fun b o e => Heap.get?_push_of_some _ e) ra) (.cons (PyProof.Rows.Reads.keeps (fun b o e => Heap.get?_push_of_some _ e) rb) .nil)
  refine call_min_twoH (PySem.W.iter_tupleW (A := A.in1) hh ht fun s₂ e W st hfp hw hk => ?_)
  refine ⟨_, _, _, _, _, _, _, s.heap.push { cls := .type "tuple", data := .seq #[a, b] }, _, rfl, W, st, hfp, (show 0 < 2 from Nat.succ_pos 1), hw, hk, PySem.W.cmpIn_lt (A := A.in1) (s := { s with heap := s.heap.push { cls := .type "tuple", data := .seq #[a, b] } }) (vs := #[a, b]) hr al (by show A.units + 1 + _ < _; exact hu), fun v s' hP m => ?_⟩
  obtain ⟨h', tk, rfl, hk'⟩ := PySem.W.moved_old (s := { s with heap := s.heap.push { cls := .type "tuple", data := .seq #[a, b] } }) e rfl m
  have hv : v = if PySem.W.dataLt y x = true then b else a := by
    have e1 : argBest (fun i j => PySem.W.dataLt (([x, y] : List PyData).getD i .none) (([x, y] : List PyData).getD j .none)) (2 - 1) = if PySem.W.dataLt y x = true then 1 else 0 := by
      show (if PySem.W.dataLt y x = true then 1 else 0) = _
      rfl
    have hP' : (#[a, b] : Array Value)[argBest (fun i j => PySem.W.dataLt (([x, y] : List PyData).getD i .none) (([x, y] : List PyData).getD j .none)) (2 - 1)]? = some v := hP
    rw [e1] at hP'
    by_cases q : PySem.W.dataLt y x = true
    · rw [if_pos q] at hP' ⊢
      exact (Option.some.inj hP').symm
    · rw [if_neg q] at hP' ⊢
      exact (Option.some.inj hP').symm
  rw [hv]
  exact h h' tk fun b o e => hk' b o (Heap.get?_push_of_some _ e)
end
end G


namespace G
open PySem PySem.Spec PyProof.Rows L2

section
variable {X : Cx}
theorem rv1 {K : PySem.W.Frag} {H : Hp} {d : D} {vs : List V} (r : RepVs K H [d] vs) : ∃ v, vs = [v] ∧ RepV K H d v := by
  obtain ⟨v, q, rfl, h, t⟩ := r.cons_inv
  rw [t.nil_inv]
  exact ⟨v, rfl, h⟩
theorem rv2 {K : PySem.W.Frag} {H : Hp} {d e : D} {vs : List V} (r : RepVs K H [d, e] vs) : ∃ v w, vs = [v, w] ∧ RepV K H d v ∧ RepV K H e w := by
  obtain ⟨v, q, rfl, h, t⟩ := r.cons_inv
  obtain ⟨w, rfl, h2⟩ := rv1 t
  exact ⟨v, w, rfl, h, h2⟩
def BI.val : BI → Value
  | .len => .builtin "len" | .abs => .builtin "abs" | .min1 => .builtin "min" | .max1 => .builtin "max" | .min2 => .builtin "min" | .max2 => .builtin "max"
  | .sum => .builtin "sum" | .all => .builtin "all" | .any => .builtin "any" | .sorted => .builtin "sorted" | .tuple => .type "tuple" | .list => .type "list" | .int => .type "int"
  | _ => .none
theorem bi_ok (hc : X.calm = true) (hu : X.A.units + 100 < cLine) (b : BI) : CallR X b.val (rdN X.K (wpBI b)) := by
  intro pins s σ H xs us R I rx h
  obtain ⟨ds, S, Q, r, rs, hw, post⟩ := h
  cases b with
  | len =>
    match ds, hw with
    | [.tup ys], hw =>
      obtain ⟨v, rfl, r1⟩ := rv1 r
      obtain ⟨_, a, vs, rfl, q, p⟩ := rv_tup r1
      exact call_len_seq pins s σ H _ us R I rx ⟨a, vs, rfl, .inr q, by rw [p.length]; exact post.here rs hw (.i _)⟩
    | [.cl ys], hw =>
      obtain ⟨v, rfl, r1⟩ := rv1 r
      obtain ⟨_, a, vs, rfl, q, p⟩ := rv_cl r1
      exact call_len_seq pins s σ H _ us R I rx ⟨a, vs, rfl, .inl q.sq, by rw [p.length]; exact post.here rs hw (.i _)⟩
    | [.str z], hw =>
      obtain ⟨v, rfl, r1⟩ := rv1 r
      rw [rv_str r1] at rx
      exact call_len_str pins s σ H _ us R I rx ⟨z, rfl, by rw [szL_eq]; exact hw.1, post.here rs hw.2 (.i _)⟩
    | [.ref a], hw =>
      obtain ⟨v, rfl, r1⟩ := rv1 r
      rw [rv_ref r1] at rx
      obtain ⟨ys, e, hq⟩ := hw
      obtain ⟨_, vs, hH, p⟩ := rs.lst e
      exact call_len_seq pins s σ H _ us R I rx ⟨a, vs, rfl, .inl (.of hH), by rw [p.length]; exact post.here rs hq (.i _)⟩
  | abs =>
    match ds, hw with
    | [.int i], hw =>
      obtain ⟨v, rfl, r1⟩ := rv1 r
      rw [rv_int r1] at rx
      exact call_abs pins s σ H _ us R I rx ⟨i, rfl, post.here rs hw (.i _)⟩
  | min1 =>
    match ds, hw with
    | [d], hw =>
      obtain ⟨v, rfl, r1⟩ := rv1 r
      obtain ⟨ns, hs, hne, hq⟩ := hw
      obtain ⟨_, a, vs, rfl, q, p⟩ := hs.rep rs r1
      rw [p.ints] at q
      rcases q with q | q
      · exact cr_min hc pins s σ H _ us R I rx ⟨a, ns, rfl, q, List.length_pos_iff.mpr hne, fun m h1 h2 => post.here rs (hq m h1 h2) (.i _)⟩
      · obtain ⟨its, rv, pt, _⟩ := I.tuple q
        rw [Vals.ref1 rx]
        exact min_rawT (I.ok.hd hc) (by omega) pt rv.ints hne fun h' tk m t' hk h1 h2 => ⟨.int _, H, I.kept hk, ⟨_, rfl⟩, post.here rs (hq m h1 h2) (.i _)⟩
  | max1 =>
    match ds, hw with
    | [d], hw =>
      obtain ⟨v, rfl, r1⟩ := rv1 r
      obtain ⟨ns, hs, hne, hq⟩ := hw
      obtain ⟨_, a, vs, rfl, q, p⟩ := hs.rep rs r1
      rw [p.ints] at q
      rcases q with q | q
      · exact cr_max hc pins s σ H _ us R I rx ⟨a, ns, rfl, q, List.length_pos_iff.mpr hne, fun m h1 h2 => post.here rs (hq m h1 h2) (.i _)⟩
      · obtain ⟨its, rv, pt, _⟩ := I.tuple q
        rw [Vals.ref1 rx]
        exact max_rawT (I.ok.hd hc) (by omega) pt rv.ints hne fun h' tk m t' hk h1 h2 => ⟨.int _, H, I.kept hk, ⟨_, rfl⟩, post.here rs (hq m h1 h2) (.i _)⟩
  | min2 =>
    match ds, hw with
    | [.int i, .int j], hw =>
      obtain ⟨v, w, rfl, r1, r2⟩ := rv2 r
      rw [rv_int r1, rv_int r2] at rx
      exact call_min2 hc pins s σ H _ us R I rx ⟨i, j, rfl, post.here rs hw (.i _)⟩
    | [.tup ys, .tup zs], hw =>
      obtain ⟨v, w, rfl, r1, r2⟩ := rv2 r
      obtain ⟨⟨p1, p2, al, d1, d2⟩, hq⟩ := hw
      obtain ⟨u1, u2, rfl, q1, q2⟩ := vals2 rx
      obtain ⟨as, ra⟩ := reads_pure I rs q1 r1 p2
      obtain ⟨bs, rb⟩ := reads_pure I rs q2 r2 p1
      have al' : PySem.W.AlikeAll [toPy (.tup ys), toPy (.tup zs)] := by
        refine ⟨fun x hx y hy => al.1 x ?_ y ?_, fun x hx => al.2 x ?_⟩
        · simp only [List.mem_cons, List.mem_singleton, List.not_mem_nil, or_false] at hx ⊢; exact hx.symm
        · simp only [List.mem_cons, List.mem_singleton, List.not_mem_nil, or_false] at hy ⊢; exact hy.symm
        · simp only [List.mem_cons, List.mem_singleton, List.not_mem_nil, or_false] at hx ⊢; exact hx.symm
      refine min_two_data (I.ok.hd hc) ra rb al' ?_ fun h' tk hk => ?_
      · have e : PyData.depthAll [toPy (.tup ys), toPy (.tup zs)] ≤ 64 := by
          simp only [PyData.depthAll]
          omega
        omega
      · show EP X pins σ R (if ltD (.tup zs) (.tup ys) = true then u2 else u1) _
        have hq' : Q (if ltD (.tup zs) (.tup ys) = true then .tup zs else .tup ys) S := hq
        by_cases c : ltD (.tup zs) (.tup ys) = true
        · rw [if_pos c] at hq' ⊢
          exact ⟨w, H, I.kept hk, q2, post.here rs hq' r2⟩
        · rw [if_neg c] at hq' ⊢
          exact ⟨v, H, I.kept hk, q1, post.here rs hq' r1⟩
  | max2 =>
    match ds, hw with
    | [.int i, .int j], hw =>
      obtain ⟨v, w, rfl, r1, r2⟩ := rv2 r
      rw [rv_int r1, rv_int r2] at rx
      exact call_max2 hc pins s σ H _ us R I rx ⟨i, j, rfl, post.here rs hw (.i _)⟩
  | sum =>
    match ds, hw with
    | [d], hw =>
      obtain ⟨v, rfl, r1⟩ := rv1 r
      obtain ⟨ns, hs, hq⟩ := hw
      obtain ⟨_, a, vs, rfl, q, p⟩ := hs.rep rs r1
      rw [p.ints] at q
      rcases q with q | q
      · exact cr_sum hc pins s σ H _ us R I rx ⟨a, ns, rfl, q, post.here rs hq (.i _)⟩
      · obtain ⟨its, rv, pt, _⟩ := I.tuple q
        rw [Vals.ref1 rx]
        exact sum_rawT (I.ok.hd hc) pt rv.ints fun h' tk t' hk => ⟨.int _, H, I.kept hk, ⟨_, rfl⟩, post.here rs hq (.i _)⟩
  | all =>
    match ds, hw with
    | [d], hw =>
      obtain ⟨v, rfl, r1⟩ := rv1 r
      obtain ⟨bs, hs, hq⟩ := hw
      obtain ⟨_, a, vs, rfl, q, p⟩ := hs.rep rs r1
      rw [p.bls] at q
      exact cr_all hc pins s σ H _ us R I rx ⟨a, bs, rfl, q, post.here rs hq (.b _)⟩
  | any =>
    match ds, hw with
    | [d], hw =>
      obtain ⟨v, rfl, r1⟩ := rv1 r
      obtain ⟨bs, hs, hq⟩ := hw
      obtain ⟨_, a, vs, rfl, q, p⟩ := hs.rep rs r1
      rw [p.bls] at q
      exact cr_any hc pins s σ H _ us R I rx ⟨a, bs, rfl, q, post.here rs hq (.b _)⟩
  | sorted =>
    match ds, hw with
    | [d], hw =>
      obtain ⟨v, rfl, r1⟩ := rv1 r
      obtain ⟨xs, hs, so, hq⟩ := hw
      obtain ⟨hz, a, vs, rfl, q, p⟩ := hs.rep rs r1
      obtain ⟨its, rv, pl, _⟩ := I.list q
      rw [Vals.ref1 rx]
      have e := eachRel p rv
      have hlen := rv.length
      refine PySem.W.sorted_data pl.isList e (eachReads I rs e so.pure) so.alike so.kind (by rw [szL_eq]; exact hz) (fun b hb => by have := so.deep b hb; omega) fun out hl eo => ?_
      obtain ⟨ep, he'⟩ := PyProof.Rows.sortedAll_at s.heap its out.toArray
      obtain ⟨ws, rw', vw⟩ := ofEach eo
      have hwl : ws.length ≤ szL := by rw [rw'.length, List.length_mergeSort]; exact hz
      have hf : H (s.heap.objs.size + 1) = none := I.hok.fresh (Nat.le_succ _)
      exact ⟨.ref _, upd H (s.heap.objs.size + 1) (.lst ws), I.laid (t' := s.toks) (fun _ _ => PyProof.Rows.sortedAll_old) (Nat.le_succ _) ⟨by rw [szL_eq]; exact hwl, out, ep, vw, by simpa using he'⟩, rfl,
        post.newL rs hf (by rw [← rw'.length]; exact hwl) rw' hq⟩
  | tuple =>
    match ds, hw with
    | [.tup ys], hw =>
      obtain ⟨v, rfl, r1⟩ := rv1 r
      obtain ⟨_, a, vs, e, q, p⟩ := rv_tup r1
      subst e
      exact call_tuple_ofF pins s σ H _ us R I rx ⟨a, vs, rfl, .inr ⟨q, post.here rs hw r1⟩⟩
    | [.cl ys], hw =>
      obtain ⟨v, rfl, r1⟩ := rv1 r
      obtain ⟨hz, a, vs, rfl, q, p⟩ := rv_cl r1
      exact call_tuple_ofF pins s σ H _ us R I rx ⟨a, vs, rfl, .inl ⟨q.sq, fun l ob hl hd => post.newT rs hl hd hz p hw⟩⟩
    | [.ref a], hw =>
      obtain ⟨v, rfl, r1⟩ := rv1 r
      rw [rv_ref r1] at rx
      obtain ⟨ys, e, hq⟩ := hw
      obtain ⟨hz, vs, hH, p⟩ := rs.lst e
      exact call_tuple_ofF pins s σ H _ us R I rx ⟨a, vs, rfl, .inl ⟨.of hH, fun l ob hl hd => post.newT rs hl hd hz p hq⟩⟩
  | list =>
    match ds, hw with
    | [d], hw =>
      obtain ⟨v, rfl, r1⟩ := rv1 r
      obtain ⟨ys, hs, hq⟩ := hw
      obtain ⟨hz, a, vs, rfl, q, p⟩ := hs.rep rs r1
      exact call_list_of pins s σ H _ us R I rx ⟨a, vs, rfl, q, fun l hl => post.newL rs hl hz p hq⟩
  | int =>
    match ds, hw with
    | [.int i], hw =>
      obtain ⟨v, rfl, r1⟩ := rv1 r
      rw [rv_int r1] at rx
      exact call_int1 pins s σ H _ us R I rx (.inl ⟨i, rfl, post.here rs hw (.i _)⟩)
    | [.bl i], hw =>
      obtain ⟨v, rfl, r1⟩ := rv1 r
      rw [rv_bl r1] at rx
      exact call_int1 pins s σ H _ us R I rx (.inr ⟨i, rfl, post.here rs hw (.i _)⟩)
  | _ => exact hw.elim
end
end G


namespace G
open PySem PySem.Spec PyProof.Rows L2

section
variable {X : Cx}
def TyI (K : PySem.W.Frag) (T : String) (x : V) (H : Hp) : Prop := tyV K T x H ∨ (T = "tuple" ∧ ∃ p xs, x = .ref p ∧ TupN K H p xs)
theorem tyI_is {pins : List (Addr × Obj)} {σ : L2.St} {H : Hp} {s : Shared} {T : String} {x : V} {v : Value} (I : Inv X pins σ H s) (r : RelV x v) (ty : TyI X.K T x H) :
    s.TypeIs v T ∧ ∀ a, v = .ref a → ∃ ob, s.heap.get? a = some ob ∧ ob.dict = none := by
  rcases ty with ty | ⟨rfl, p, xs, rfl, h⟩
  · exact tyV_is I r ty
  · cases r
    rcases h with ⟨o, h, hd⟩ | ⟨o, its, n, h1, h2, h3, _⟩
    · obtain ⟨e, _, _, _, o', e', hc, _⟩ := I.hok p _ h
      rw [e] at e'; cases e'
      exact ⟨⟨o, e, hc⟩, fun a q => by cases q; exact ⟨o, e, hd⟩⟩
    · exact ⟨⟨o, I.kIn p o h1, h2⟩, fun a q => by cases q; exact ⟨o, I.kIn p o h1, h3⟩⟩
def tBMI0 (K : PySem.W.Frag) (T : String) (r : V → List V → Hp → VK → Prop) (to : TE) : TE := fun σ H Q => to σ H fun x H1 => TyI K T x H1 ∧ r x [] H1 Q
def tBMI (K : PySem.W.Frag) (T : String) (r : V → List V → Hp → VK → Prop) (to : TE) (t : TA) : TE := fun σ H Q => to σ H fun x H1 => TyI K T x H1 ∧ t σ H1 fun xs H2 => r x xs H2 Q
variable {o e : Expr} {es : List Expr} {to : TE} {t : TA} {name : Str} {apos cpos : Pos} {T id : String} {r : V → List V → Hp → VK → Prop}
theorem pe_bmI0 (pa : PlainAttrs T) (slot : Slot T name id) (hty : typeOf (.builtin id) = pure (.type "method_descriptor")) (hm : MtR X id r) (ho : PE X o to)
    (hbase : attributeBase o name X.env (eval o X.env) = eval o X.env) (hline : (apos.endLine == cpos.line) = true) : PE X (.Call (.Attribute o name apos) [] [] cpos) (tBMI0 X.K T r to) := by
  refine ⟨fun pins s σ H Q I h => ?_⟩
  refine wpAny_Call_method0_late hbase hline (thn (ho.run pins s σ H _ I h) fun v s1 ⟨x, H1, I1, r1, ty, q1⟩ => ?_)
  obtain ⟨h1, h2⟩ := tyI_is I1 r1 ty
  exact ⟨T, id, pa, slot, hty, h1, h2, Calls.callWith_builtin rfl (PySem.evalArgs_none (hm pins s1 σ H1 x [] v [] Q I1 r1 .nil q1))⟩
theorem pe_bmI (pa : PlainAttrs T) (slot : Slot T name id) (hty : typeOf (.builtin id) = pure (.type "method_descriptor")) (hm : MtR X id r) (ho : PE X o to) (ha : PA X (e :: es) t)
    (hbase : attributeBase o name X.env (eval o X.env) = eval o X.env)
    (hfew : ((backTo cpos (starEach (e :: es) X.env)).all (fun x => !x.1) && (backToKw cpos (keywordEach [] X.env)).all (fun x => x.1.isSome)
      && decide ((e :: es).length + ([] : List Keyword).length + (if ([] : List Keyword).isEmpty then 0 else 1) < 30)) = true)
    (hline : (apos.endLine == cpos.line) = true) (hs : starEach (e :: es) X.env = (false, eval e X.env) :: starEach es X.env) (hplain : (backTo cpos (starEach es X.env)).any (·.1) = false) :
    PE X (.Call (.Attribute o name apos) (e :: es) [] cpos) (tBMI X.K T r to t) := by
  refine ⟨fun pins s σ H Q I h => ?_⟩
  refine wpAny_Call_method_late hbase hfew hline rfl (thn (ho.run pins s σ H _ I h) fun v s1 ⟨x, H1, I1, r1, ty, q1⟩ => ?_)
  obtain ⟨h1, h2⟩ := tyI_is I1 r1 ty
  refine ⟨T, id, pa, slot, hty, h1, h2, ?_⟩
  have hA := ha.run cpos pins s1 σ H1 _ I1 q1
  rw [hs] at hA ⊢
  refine Calls.callWith_builtin (by show (false || (backTo cpos (starEach es X.env)).any (·.1)) = false; rw [hplain] <;> rfl) (Calls.evalArgs_plain ?_)
  exact thn hA fun us s2 ⟨vs, H2, I2, r2, q2⟩ => hm pins s2 σ H2 x vs v us Q I2 r1 r2 q2

def rIndexTD (K : PySem.W.Frag) : V → List V → Hp → VK → Prop := fun x xs H Q => ∃ (a : Addr) (y : V) (d : PyData) (ds : List PyData) (j : Nat) (z : PyData), x = V.ref a ∧ xs = [y] ∧ Dp K H (V.ref a) (.tuple ds) ∧ Dp K H y d ∧
  SeqAt.shaped (.tuple ds) = true ∧ SeqAt.shaped d = true ∧ ds[j]? = some z ∧ PyData.eqv z d = true ∧ (∀ (m : Nat) (z' : PyData), m < j → ds[m]? = some z' → PyData.eqv z' d = false) ∧ Q (.int (j : Nat)) H
theorem mt_tup_indexD (hu : X.A.units + 65 < cLine) : MtR X "tuple.index" (rIndexTD X.K) := by
  intro pins s σ H x xs v us Q I rx rxs h
  obtain ⟨a, y, d, ds, j, z, rfl, rfl, hl, hy, sl, sd, hz, hzj, hno, q⟩ := h
  cases rx
  cases rxs with
  | cons ry rt =>
    rename_i uy ut
    cases rt
    obtain ⟨bs, r1⟩ := Dp.reads I d y uy hy ry
    have hxs : PyData.canLayAll0 ds = true := SeqAt.canLay_of_shaped sl
    have hroom : X.A.units + 1 + min (PyData.depthAll ds) d.depth < cLine := room_inT sd hu
    cases hl with
    | tup hs ha =>
      obtain ⟨its, rv, ⟨⟨cls, dd, data, sls⟩, ho, hc, n, hdt⟩, hlen⟩ := I.tuple hs
      simp only at hc hdt
      subst hc hdt
      obtain ⟨as, h4⟩ := Dp.readsAll I ds _ its ha rv
      have hn : its.length = ds.length := SeqAt.ReadsAll.length ds its as h4
      have hmap : its.map (SeqAt.readOf s.heap) = ds := SeqAt.readsAll_map ds its as hxs h4
      obtain ⟨hjd, _⟩ := List.getElem?_eq_some_iff.mp hz
      have hjl : j < its.length := by omega
      have hj : j < its.toArray.size := by simpa using hjl
      have at_ : ∀ (m : Nat) (hm : m < its.toArray.size) (z' : PyData), ds[m]? = some z' → SeqAt.readOf s.heap its.toArray[m] = z' := by
        intro m hm z' hz'
        have hml : m < its.length := by simpa using hm
        rw [← hmap, List.getElem?_map, List.getElem?_eq_getElem hml] at hz'
        have e1 : SeqAt.readOf s.heap its[m] = z' := Option.some.inj (show some (SeqAt.readOf s.heap its[m]) = some z' from hz')
        simpa using e1
      refine call_meets PySem.F.slot_tuple_index ⟨_, ho, rfl⟩ PySem.F.entry_tuple_index (PySem.F.args_tuple_index_2 _ _)
        (TI.tuple_indexAt a its.toArray n dd sls uy (fun u => PyData.eqv (SeqAt.readOf s.heap u) d) j hj ?_ ?_) ⟨ho, SeqAt.items_eqAt (vs := its.toArray) (show ReadsAll s.heap its.toArray.toList ds as from h4) r1 hxs (SeqAt.canLay_of_shaped sd) hroom, ?_⟩
      · show PyData.eqv (SeqAt.readOf s.heap its.toArray[j]) d = true
        rw [at_ j hj z hz]
        exact hzj
      · intro m hm hmj
        have hmd : m < ds.length := by omega
        have hz' : ds[m]? = some ds[m] := List.getElem?_eq_getElem hmd
        show PyData.eqv (SeqAt.readOf s.heap its.toArray[m]) d = false
        rw [at_ m hm _ hz']
        exact hno m _ hmj hz'
      · exact ⟨.int (j : Nat), H, I.tok _, ⟨_, rfl⟩, q⟩

def rdM (K : PySem.W.Frag) (w : D → List D → Sto → QE → Prop) : V → List V → Hp → VK → Prop := fun x vs H R => ∃ dx ds S Q, RepV K H dx x ∧ RepVs K H ds vs ∧ RepS K S H ∧ w dx ds S Q ∧ PostE K H S Q R
/-- the store of a list -/
theorem PostE.putL {K : PySem.W.Frag} {H : Hp} {S : Sto} {Q : QE} {R : VK} (p : PostE K H S Q R) (rs : RepS K S H) {a : Addr} {xs ds : List D} {vs : List V} {d : D} {v : V} (e : S a = some (.lst xs)) (hz : ds.length ≤ szL) (r : RepVs K H ds vs) (rd : RepV K H d v) (q : Q d (sup S a (.lst ds))) : R v (upd H a (.lst vs)) :=
  p d _ v _ q (Ext.put e) (RepV.mono (TX.put rs e) d v rd) (rs.put e ⟨hz, vs, upd_same, RepVs.mono (TX.put rs e) ds vs r⟩)
def MI.ident : MI → String
  | .append => "list.append" | .pop => "list.pop" | .popAt => "list.pop" | .extend => "list.extend" | .insert => "list.insert" | .remove => "list.remove" | .count => "list.count"
  | .indexT => "tuple.index" | .indexL => "list.index" | .get2 => "dict.get" | .setdefault => "dict.setdefault"
theorem seqIndex_nat {i : Int} {n : Nat} (h0 : 0 ≤ i) (h : i.toNat < n) : seqIndex? i n = some i.toNat := seqIndex_of h0 (by omega)
theorem mi_ok (hu : X.A.units + 100 < cLine) (m : MI) : MtR X m.ident (rdM X.K (wpMI m)) := by
  intro pins s σ H x xs v us R I rx rxs h
  obtain ⟨dx, ds, S, Q, r0, r, rs, hw, post⟩ := h
  cases m with
  | append =>
    match ds, hw with
    | [d], hw =>
      obtain ⟨v, rfl, r1⟩ := rv1 r
      obtain ⟨a, ys, rfl, e, hl, hq⟩ := hw
      obtain ⟨_, vs, hH, p⟩ := rs.lst e
      rw [rv_ref r0] at rx
      exact mt_append pins s σ H _ _ _ us R I rx rxs ⟨a, vs, v, rfl, rfl, hH, by rw [p.length, szL_eq]; exact hl, post.putL rs e (by rw [List.length_append]; exact hl) (p.append (.cons r1 .nil)) .n hq⟩
  | pop =>
    match ds, hw with
    | [], hw =>
      obtain ⟨a, ys, y, rfl, e, hl, hq⟩ := hw
      obtain ⟨hz, vs, hH, p⟩ := rs.lst e
      rw [rv_ref r0] at rx
      rw [r.nil_inv] at rxs
      obtain ⟨w, hw', rw'⟩ := p.get hl
      rw [← p.length] at hw'
      exact mt_pop pins s σ H _ _ _ us R I rx rxs ⟨a, vs, w, rfl, rfl, hH, hw', post.putL rs e (by rw [List.length_dropLast]; omega) p.dropLast rw' hq⟩
  | popAt =>
    match ds, hw with
    | [.int i], hw =>
      obtain ⟨v, rfl, r1⟩ := rv1 r
      obtain ⟨a, ys, y, rfl, e, h0, hl, hq⟩ := hw
      obtain ⟨hz, vs, hH, p⟩ := rs.lst e
      rw [rv_ref r0] at rx
      rw [rv_int r1] at rxs
      obtain ⟨w, hw', rw'⟩ := p.get hl
      have hlt : i.toNat < vs.length := (List.getElem?_eq_some_iff.mp hw').1
      have hpl := p.length
      have hsz : szL = 16777216 := rfl
      exact mt_popAt pins s σ H _ _ _ us R I rx rxs ⟨a, vs, i, i.toNat, w, rfl, rfl, hH, by omega, by omega, seqIndex_nat h0 hlt, hw', post.putL rs e (by have := List.length_eraseIdx_le ys i.toNat; omega) (p.eraseIdx _) rw' hq⟩
  | extend =>
    match ds, hw with
    | [.ref b], hw =>
      obtain ⟨v, rfl, r1⟩ := rv1 r
      obtain ⟨a, ys, zs, rfl, hab, e, e2, hl, hq⟩ := hw
      obtain ⟨hz, vs, hH, p⟩ := rs.lst e
      obtain ⟨_, ws, hH2, p2⟩ := rs.lst e2
      rw [rv_ref r0] at rx
      rw [rv_ref r1] at rxs
      exact mt_extend pins s σ H _ _ _ us R I rx rxs ⟨a, b, vs, ws, rfl, rfl, hH, hH2, by rw [p.length, p2.length, szL_eq]; exact hl, post.putL rs e (by rw [List.length_append]; exact hl) (p.append p2) .n hq⟩
  | indexT =>
    match dx, ds, hw with
    | .tup ys, [d], hw =>
      obtain ⟨v, rfl, r1⟩ := rv1 r
      obtain ⟨p, ps, j, z, h1, h2, s1, s2, h3, h4, h5, hq⟩ := hw
      obtain ⟨_, a, vs, rfl, q, pp⟩ := rv_tup r0
      exact mt_tup_indexD (by omega) pins s σ H _ _ _ us R I rx rxs ⟨a, v, p, ps, j, z, rfl, rfl, .tup q (IsPys.rep rs _ _ _ h2 pp), IsPy.rep rs _ _ _ h1 r1, s2, s1, h3, h4, h5, post.here rs hq (.i _)⟩
  | _ => exact hw.elim
end
end G


namespace G
open PySem PySem.Spec PyProof.Rows L2

/-- the def's names by slot; the defs and the constants that it may name, in their order in the table -/
structure CkT where
  N : List Str
  fs : List Str
  gs : List Str

def notStar : Expr → Bool
  | .Starred .. => false
  | _ => true
def notSlice : Expr → Bool
  | .Slice .. => false
  | _ => true
def notSet : Expr → Bool
  | .Set .. => false
  | _ => true
def notLC : Expr → Bool
  | .ListComp .. | .SetComp .. | .DictComp .. => false
  | _ => true
/-- no super().x -/
def plainBase : Expr → Bool
  | .Call (.Name ..) [] [] _ => false
  | _ => true
def visB (sc : Scope) (x : Str) : Bool := match sc.names.lookup x with
  | some .local => true
  | some .cell => true
  | some .free => true
  | _ => false
def gloB (sc : Scope) (x : Str) : Bool := match sc.names.lookup x with
  | some .globalImplicit => true
  | _ => false
def nmOk (x : Str) : Bool := !(x == ("__debug__" : Str)) && !(x == ("__classdict__" : Str))
/-- a name that may be written: a local, or a cell of the block's own -/
def locB (sc : Scope) (cs : List Str) (x : Str) : Bool := match sc.names.lookup x with
  | some .local => true
  | some .cell => cs.any (· == x)
  | _ => false
def BI.nm : BI → Str
  | .len => "len" | .abs => "abs" | .min1 => "min" | .max1 => "max" | .min2 => "min" | .max2 => "max"
  | .sum => "sum" | .all => "all" | .any => "any" | .sorted => "sorted" | .tuple => "tuple" | .list => "list" | .int => "int"
  | _ => ""
/-- the built-ins that are called by name alone -/
def BI.ok : BI → Bool
  | .len | .abs | .min1 | .max1 | .min2 | .max2 | .sum | .all | .any | .sorted | .tuple | .list | .int => true
  | _ => false
def MI.nm : MI → Str
  | .append => "append" | .pop => "pop" | .popAt => "pop" | .extend => "extend" | .indexT => "index"
  | _ => ""
def MI.ok : MI → Bool
  | .append | .pop | .popAt | .extend | .indexT => true
  | _ => false
/-- the names that the module must leave to the built-ins -/
def bltN : List Str := ["len", "abs", "min", "max", "sum", "all", "any", "sorted", "tuple", "list", "int", "range", "enumerate", "zip", "isinstance", "bool", "str", "dict", "set", "repr"]
/-- a comprehension's own names with their slots -/
def ownOf (N : List Str) (scope : Scope) : List (Str × Nat) := scope.names.filterMap fun p => match p.2 with
  | .local | .cell => match N.findIdx? (· == p.1) with
    | some i => some (p.1, i)
    | none => none
  | _ => none
def cellsOfS (scope : Scope) : List Str := scope.names.filterMap fun p => if p.2 = .cell then some p.1 else none
mutual
def slotsT : IT → List Nat
  | .nm i => [i]
  | .tp ts => slotsTs ts
def slotsTs : ITs → List Nat
  | .nil => []
  | .cons t ts => slotsT t ++ slotsTs ts
end
mutual
def chT (c : CkT) (sc : Scope) (cs : List Str) : IT → Expr → Bool
  | .nm i, .Name x _ => decide (c.N[i]? = some x) && locB sc cs x
  | .tp ts, .Tuple es _ _ => chTs c sc cs ts es
  | _, _ => false
def chTs (c : CkT) (sc : Scope) (cs : List Str) : ITs → List Expr → Bool
  | .nil, [] => true
  | .cons t ts, e :: es => notStar e && chT c sc cs t e && chTs c sc cs ts es
  | _, _ => false
end
def isTp : IT → Bool
  | .tp _ => true
  | _ => false

def TyN.nm : TyN → Str
  | .int => "int" | .bool => "bool" | .tuple => "tuple" | .list => "list" | .str => "str" | .dict => "dict"
def TyN.ty : TyN → String
  | .int => "int" | .bool => "bool" | .tuple => "tuple" | .list => "list" | .str => "str" | .dict => "dict"
/-- what stands within such a call -/
def spIsin (sc : Scope) (t : TyN) : Expr → Option (List Expr)
  | .Call (.Name x _) [a, .Name y _] [] _ => if decide (x = ("isinstance" : Str)) && decide (y = t.nm) && gloB sc x && gloB sc y then some [a] else none
  | _ => none
def spTwo (sc : Scope) (f g : Str) : Expr → Option (List Expr)
  | .Call (.Name x _) [.Call (.Name y _) as [] _] [] _ => if decide (x = f) && decide (y = g) && gloB sc x && gloB sc y then some as else none
  | _ => none
def spArgs (sc : Scope) (k : SP) (x : Expr) : Option (List Expr) := match k with
  | .isin t => spIsin sc t x
  | .listrange => match spTwo sc "list" "range" x with
    | some [a] => some [a]
    | some [a, b] => some [a, b]
    | _ => none
  | .lenset => match spTwo sc "len" "set" x with
    | some [a] => some [a]
    | _ => none
  | .sortset => match spTwo sc "sorted" "set" x with
    | some [a] => some [a]
    | _ => none
/-- the bound of t[::-1], of t[:0:-1] -/
def revB : Nat → Option Expr → Bool
  | 0, none => true
  | 1, some (.Constant (.int j) _ _) => decide (j = 0)
  | _, _ => false
mutual
def chE (c : CkT) (sc : Scope) (cs : List Str) : IE → Expr → Bool
  | .var i, .Name x _ => decide (c.N[i]? = some x) && visB sc x && nmOk x
  | .cI i, .Constant (.int j) _ _ => decide (i = j)
  | .cB b, .Constant (.bool d) _ _ => b == d
  | .cN, .Constant .none _ _ => true
  | .cS s, .Constant (.str t) _ _ => decide (s = t)
  | .glo g, .Name x _ => decide (c.gs[g]? = some x) && gloB sc x && nmOk x
  | .bin o a b, .BinOp l p r _ => decide (o = p) && chE c sc cs a l && chE c sc cs b r
  | .neg a, .UnaryOp .USub e _ => chE c sc cs a e
  | .nt a, .UnaryOp .Not e _ => chE c sc cs a e
  | .and a b, .BoolOp .And (x :: y :: r) pos => chE c sc cs a x && (match r with
    | [] => chE c sc cs b y
    | z :: r => chE c sc cs b (.BoolOp .And (y :: z :: r) pos))
  | .or a b, .BoolOp .Or (x :: y :: r) pos => chE c sc cs a x && (match r with
    | [] => chE c sc cs b y
    | z :: r => chE c sc cs b (.BoolOp .Or (y :: z :: r) pos))
  | .cmp o a b, .Compare l [p] [r] _ => decide (o = p) && !behindInMarks p r && chE c sc cs a l && chE c sc cs b r
  | .chn o o2 a b d, .Compare l [p, p2] [m, r] _ => decide (o = p) && decide (o2 = p2) && !behindInMarks p2 r && chE c sc cs a l && chE c sc cs b m && chE c sc cs d r
  | .ite d a b, .IfExp t x y _ => chE c sc cs d t && chE c sc cs a x && chE c sc cs b y
  | .call f es, .Call (.Name x _) (a :: as) [] _ => decide (c.fs[f]? = some x) && gloB sc x && nmOk x && chEs c sc cs es (a :: as)
  | .bi b es, .Call (.Name x _) (a :: as) [] _ => b.ok && decide (b.nm = x) && gloB sc x && nmOk x && chEs c sc cs es (a :: as)
  | .mt m o es, .Call (.Attribute e name apos) as [] cpos => m.ok && decide (m.nm = name) && plainBase e && (apos.endLine == cpos.line) && decide (as.length < 20) && chE c sc cs o e && chEs c sc cs es as
  | .sp k es, x => match spArgs sc k x with
    | some as => chEs c sc cs es as
    | none => false
  | .ix a b, .Subscript x y _ => notSlice y && chE c sc cs a x && chE c sc cs b y
  | .sl a lo hi, .Subscript x (.Slice l h none _) _ => chE c sc cs a x && chO c sc cs lo l && chO c sc cs hi h
  | .rev k a, .Subscript x (.Slice none h (some (.UnaryOp .USub (.Constant (.int j) _ _) _)) _) _ => decide (j = 1) && revB k h && chE c sc cs a x
  | .tup es, .Tuple xs _ _ => chEs c sc cs es xs
  | .lst es, .List xs _ => chEs c sc cs es xs
  | .lc ws t it ifs e, .ListComp elt [⟨tg, iter, tests, asy⟩] scope _ =>
      decide (asy = 0) && decide (ws = (ownOf c.N scope).map (·.2)) && blkC c.N sc scope (ownOf c.N scope) && (slotsT t).all (ws.contains ·) &&
      chI c sc cs it tg iter (isTp t) && chT c (relS scope sc) (cellsOfS scope) t tg && chC c (relS scope sc) (cellsOfS scope) ifs tests && chE c (relS scope sc) (cellsOfS scope) e elt
  | _, _ => false
def chEs (c : CkT) (sc : Scope) (cs : List Str) : IEs → List Expr → Bool
  | .nil, [] => true
  | .cons e es, x :: xs => chE c sc cs e x && chEs c sc cs es xs
  | _, _ => false
/-- a bound of a slice -/
def chO (c : CkT) (sc : Scope) (cs : List Str) : IEs → Option Expr → Bool
  | .nil, none => true
  | .cons e .nil, some x => chE c sc cs e x
  | _, _ => false
/-- a comprehension's tests: none, one -/
def chC (c : CkT) (sc : Scope) (cs : List Str) : IEs → List Expr → Bool
  | .nil, [] => true
  | .cons e .nil, [x] => chE c sc cs e x
  | _, _ => false
def chI (c : CkT) (sc : Scope) (cs : List Str) : II → Expr → Expr → Bool → Bool
  | .val e, _, x, _ => notSet x && chE c sc cs e x
  | .rng es, _, .Call (.Name x _) as [] _, _ => decide (x = ("range" : Str)) && gloB sc x && decide (as.length = 1 ∨ as.length = 2) && chEs c sc cs es as
  | .enm e, .Tuple _ _ _, .Call (.Name x _) [a] [] _, tp => tp && decide (x = ("enumerate" : Str)) && gloB sc x && chE c sc cs e a
  | .zip a b, .Tuple _ _ _, .Call (.Name x _) [l, r] [] _, tp => tp && decide (x = ("zip" : Str)) && gloB sc x && chE c sc cs a l && chE c sc cs b r
  | _, _, _, _ => false
end

/-- a, b = x, y (two, three) by the names' own order -/
def swOk (sc : Scope) (N : List Str) : List Nat → List Expr → List Expr → Bool
  | ns, ts, vs => decide (ns.length = ts.length) && decide (vs.length = ts.length) && (decide (ts.length = 2) || decide (ts.length = 3)) && decide ns.Nodup && (List.zip ns ts).all (fun p => match p.2 with
      | .Name x pos => decide (N[p.1]? = some x) && decide (sc.names.lookup x = some .local) && (pos.line == (ts.head?.map (·.pos.line)).getD 0)
      | _ => false) && vs.all notStar && !vs.all (foldedForSure 8) && !vs.all (constantsAlone 8)
/-- no such order: the tuple is made and taken apart -/
def noSw (sc : Scope) : Expr → Expr → Bool
  | .Tuple ts _ _, .Tuple vs _ _ => !(ts.length == 2 || ts.length == 3) || ts.any fun t => match t with
      | .Name x _ => decide (sc.names.lookup x ≠ some .local)
      | _ => true
  | .List _ _, _ => false
  | _, _ => true
/-- a comprehension given to a name of its line: it is stored within -/
def swB (sc : Scope) (x : Str) (px : Pos) : Expr → Bool
  | .ListComp _ _ scope pos => decide (sc.names.lookup x = some .local) && (px.line == pos.line) && !(scope.names.any fun (n, k) => n == x && (k == .local || k == .cell))
  | _ => false
def augOk : Operator → Bool
  | .Add | .Sub => true
  | _ => false
mutual
def chS (c : CkT) (sc : Scope) (cs : List Str) : IS → Stmt → Bool
  | .asg (.nm i) e, .Assign [.Name x px] v _ => decide (c.N[i]? = some x) && locB sc cs x && (notLC v || swB sc x px v || decide (sc.names.lookup x ≠ some .local)) && chE c sc cs e v
  | .asg (.tp ts) e, .Assign [.Tuple es k p] v _ => noSw sc (.Tuple es k p) v && chTs c sc cs ts es && chE c sc cs e v
  | .par ns es, .Assign [.Tuple ts _ _] (.Tuple vs _ _) _ => swOk sc c.N ns ts vs && chEs c sc cs es vs
  | .set o i e, .Assign [.Subscript x y _] v _ => notSlice y && chE c sc cs o x && chE c sc cs i y && chE c sc cs e v
  | .augN i o e, .AugAssign (.Name x _) p v _ => augOk o && decide (o = p) && decide (c.N[i]? = some x) && locB sc cs x && chE c sc cs e v
  | .augS a i o e, .AugAssign (.Subscript x y _) p v _ => augOk o && decide (o = p) && notSlice y && chE c sc cs a x && chE c sc cs i y && chE c sc cs e v
  | .exp e, .Expr x _ => notLC x && chE c sc cs e x
  | .ret e, .Return (some x) _ => chE c sc cs e x
  | .ifs d a b, .If t x y _ => chE c sc cs d t && chSs c sc cs a x && chSs c sc cs b y
  | .for t it b, .For tg iter body [] _ => chI c sc cs it tg iter (isTp t) && chT c sc cs t tg && chSs c sc cs b body
  | .whl d b, .While t body [] _ => chE c sc cs d t && chSs c sc cs b body
  | .pas, .Pass _ => true
  | _, _ => false
def chSs (c : CkT) (sc : Scope) (cs : List Str) : ISs → List Stmt → Bool
  | .nil, [] => true
  | .cons s r, x :: xs => chS c sc cs s x && chSs c sc cs r xs
  | _, _ => false
end
end G


namespace G
open PySem PySem.Spec PyProof.Rows L2

theorem starEach_cons {e : Expr} {es : List Expr} {env : PySem.Env} (h : notStar e = true) : starEach (e :: es) env = (false, eval e env) :: starEach es env := by
  cases e <;> first | rfl | cases h
theorem starEach_plain {env : PySem.Env} : ∀ {es : List Expr}, es.all notStar = true → ∀ p ∈ starEach es env, p.1 = false
  | [], _, p, hp => by simp [starEach] at hp
  | e :: es, h, p, hp => by
    rw [List.all_cons, Bool.and_eq_true] at h
    rw [starEach_cons h.1] at hp
    rcases List.mem_cons.mp hp with rfl | hp
    · rfl
    · exact starEach_plain h.2 p hp
theorem backTo_plain {env : PySem.Env} {es : List Expr} {pos : Pos} (h : es.all notStar = true) : (backTo pos (starEach es env)).any (·.1) = false := by
  rw [List.any_eq_false]
  intro p hp
  unfold backTo at hp
  obtain ⟨q, hq, rfl⟩ := List.mem_map.mp hp
  simp [starEach_plain h q hq]
theorem backTo_all {env : PySem.Env} {es : List Expr} {pos : Pos} (h : es.all notStar = true) : (backTo pos (starEach es env)).all (fun x => !x.1) = true := by
  rw [List.all_eq_true]
  intro p hp
  unfold backTo at hp
  obtain ⟨q, hq, rfl⟩ := List.mem_map.mp hp
  simp [starEach_plain h q hq]
theorem plainIx_of {b : Expr} (h : notSlice b = true) : PlainIx b := by
  intro o i
  cases b <;> first | rfl | cases h
theorem swaps_no {e : Expr} {t : Option Expr} {n : Nat} {env : PySem.Env} (h : notLC e = true) : swapsWith e t n env = pure false := by
  cases e <;> first | rfl | cases h
theorem base_plain {e : Expr} {a : Str} {env : PySem.Env} {w : Sem Value} (h : plainBase e = true) : attributeBase e a env w = w := by
  cases e with
  | Call f as ks p =>
    cases f <;> first | rfl | skip
    cases as <;> first | rfl | skip
    cases ks <;> first | rfl | skip
    cases h
  | _ => rfl
theorem folded_plain {e : Expr} {env : PySem.Env} (h : notSet e = true) : ∀ x, foldedSetIterable e env x = pure x := by
  intro x
  cases e <;> first | rfl | cases h
theorem assignEach_cons {e : Expr} {es : List Expr} {env : PySem.Env} (h : notStar e = true) : assignEach (e :: es) env = (false, assign e env) :: assignEach es env := by
  cases e <;> first | rfl | cases h
theorem assignEach_len {env : PySem.Env} : ∀ {es : List Expr}, es.all notStar = true → (assignEach es env).length = es.length ∧ (assignEach es env).findIdx? (·.1) = none
  | [], _ => by simp [assignEach]
  | e :: es, h => by
    rw [List.all_cons, Bool.and_eq_true] at h
    obtain ⟨h1, h2⟩ := assignEach_len (env := env) h.2
    rw [assignEach_cons h.1]
    exact ⟨by simp [h1], by simp [List.findIdx?_cons, h2]⟩

/-- a def as it may be called -/
def FnIn (X : Cx) (x : Str) (w : DSp) : Prop := ∃ k f fd ps, FnOk X.prog X.w X.K X.mg X.base CX0 k f fd ps (spOf X.K ps.length w) ∧ Room k X.A ∧ X.mg x = some (.ref f) ∧ PySem.W.keepIn X.K (.ref f) = true ∧ Binds X.K fd ps [] ∧ ∀ ds S Q, w ds S Q → ds.length = ps.length
structure Gd (X : Cx) (c : CkT) (T : Tab) (sc : Scope) (cs : List Str) : Prop where
  N : X.N = c.N
  nd : X.N.Nodup
  sce : X.env.scope = sc
  kd : sc.kind = .function
  cl : X.calm = true
  xe : X.xe = fun _ _ => False
  fn : ∀ x, x ∈ cs → X.fn x = true
  rm : Room 0 X.A
  fs : ∀ (i : Nat) x, c.fs[i]? = some x → ∃ w, T.fs[i]? = some (x, w) ∧ FnIn X x w
  gs : ∀ (i : Nat) x, c.gs[i]? = some x → ∃ d u v, T.gs[i]? = some (x, d) ∧ X.mg x = some u ∧ RelV v u ∧ ∀ H, RepV X.K H d v
  fr : ∀ x : Str, x ∈ bltN → X.mg x = none
section
variable {X : Cx} {c : CkT} {T : Tab} {sc : Scope} {cs : List Str}
theorem bi_nm (b : BI) (h : b.ok = true) : b.nm ∈ bltN := by
  cases b <;> first | (cases h; done) | (show (_ : Str) ∈ bltN; decide +kernel)
theorem Gd.bl (g : Gd X c T sc cs) (b : BI) (h : b.ok = true) : X.mg b.nm = none := g.fr _ (bi_nm b h)
theorem Gd.rg (g : Gd X c T sc cs) : X.mg "range" = none := g.fr _ (by decide +kernel)
theorem Gd.en (g : Gd X c T sc cs) : X.mg "enumerate" = none := g.fr _ (by decide +kernel)
theorem Gd.zp (g : Gd X c T sc cs) : X.mg "zip" = none := g.fr _ (by decide +kernel)
theorem Gd.vis (g : Gd X c T sc cs) {x : Str} (h : visB sc x = true) : Vis X.env.scope x := by
  unfold visB at h
  unfold Vis
  rw [g.sce]
  split at h <;> first | (rename_i q; exact .inl q) | (rename_i q; exact .inr (.inl q)) | (rename_i q; exact .inr (.inr q)) | cases h
theorem Gd.glo (g : Gd X c T sc cs) {x : Str} (h : gloB sc x = true) : Gl X x := by
  unfold gloB at h
  show X.env.scope.names.lookup x = some .globalImplicit
  rw [g.sce]
  split at h
  · assumption
  · cases h
theorem Gd.loc (g : Gd X c T sc cs) {x : Str} (h : locB sc cs x = true) : L2.Loc X.env.scope x ∧ (X.fn x = true ∨ X.env.scope.names.lookup x = some .local) := by
  unfold locB at h
  unfold L2.Loc
  rw [g.sce]
  split at h
  · rename_i q
    exact ⟨.inl q, .inr q⟩
  · rename_i q
    obtain ⟨y, hy, e⟩ := List.any_eq_true.mp h
    have e' : y = x := by simpa using e
    subst e'
    exact ⟨.inr q, .inl (g.fn _ hy)⟩
  · cases h
theorem Gd.un (g : Gd X c T sc cs) : X.A.units + 100 < cLine := by have := g.rm.un; omega
theorem Gd.never (g : Gd X c T sc cs) : PassesOwn (model X.prog X.w) X.A X.env X.xe := by rw [g.xe]; exact PassesOwn.never
end

section
variable {X : Cx} {wa wb wd : Rho → Sto → QE → Prop} {x y z : Expr} {pos : Pos}
theorem rdE_bind {K : PySem.W.Frag} {ρ : Rho} {S : Sto} {σ : L2.St} {H : Hp} {P : QE} {R : VK} {w : Rho → Sto → QE → Prop} (e : RepE K H ρ σ) (rs : RepS K S H) (h : w ρ S P) (k : ∀ d S' v H', P d S' → Ext H S H' S' → RepV K H' d v → RepS K S' H' → R v H') : rdE K w σ H R := ⟨ρ, S, P, e, rs, h, k⟩
theorem e_var {i : Nat} {p : Pos} (hN : X.N[i]? = some n) (hv : Vis X.env.scope n) (h : nmOk n = true) : PE X (.Name n p) (rdE X.K fun ρ S Q => match ρ[i]? with
    | some (some d) => Q d S
    | _ => False) := by
  unfold nmOk at h
  rw [Bool.and_eq_true, Bool.not_eq_true', Bool.not_eq_true'] at h
  refine PE.imp (pe_var (i := i) hN hv h.1 h.2) fun σ H R ⟨ρ, S, Q, e, rs, hw, post⟩ => ?_
  dsimp only at hw
  split at hw
  · rename_i d hd
    obtain ⟨v, e', r⟩ := e.get i d hd
    exact ⟨v, e', post.here rs hw r⟩
  · exact hw.elim
theorem e_const {e : Expr} {v : V} {d : D} (h : PE X e (tC v)) (r : ∀ H, RepV X.K H d v) : PE X e (rdE X.K fun _ S Q => Q d S) :=
  PE.imp h fun σ H R ⟨ρ, S, Q, _, rs, hw, post⟩ => post.here rs hw (r H)
theorem rd_two {K : PySem.W.Frag} {w : D2} {σ : L2.St} {H : Hp} {R : VK} (h : rdE K (fun ρ S Q => wa ρ S fun d S1 => wb ρ S1 fun u S2 => w d u S2 Q) σ H R) : tOp (rd2 K w) (rdE K wa) (rdE K wb) σ H R := by
  obtain ⟨ρ, S, Q, e, rs, hw, post⟩ := h
  refine rdE_bind e rs hw fun d S1 v H1 hq x1 r1 rs1 => ?_
  refine rdE_bind (e.mono (x1.tx rs)) rs1 hq fun u S2 v2 H2 hq2 x2 r2 rs2 => ?_
  exact ⟨d, u, S2, Q, RepV.mono (x2.tx rs1) _ _ r1, r2, rs2, hq2, post.trans (x1.trans x2)⟩
theorem e_bin {o : Operator} (ha : PE X x (rdE X.K wa)) (hb : PE X y (rdE X.K wb)) : PE X (.BinOp x o y pos) (rdE X.K fun ρ S Q => wa ρ S fun d S1 => wb ρ S1 fun u S2 => wpBin o d u S2 Q) :=
  PE.imp (pe_op (or_bin o) ha hb) fun _ _ _ h => rd_two h
theorem e_cmp {o : CmpOp} (hu : X.A.units + 65 < cLine) (ha : PE X x (rdE X.K wa)) (hb : PE X y (rdE X.K wb)) (hm : behindInMarks o y = false) : PE X (.Compare x [o] [y] pos) (rdE X.K fun ρ S Q => wa ρ S fun d S1 => wb ρ S1 fun u S2 => wpCmp o d u S2 Q) :=
  PE.imp (pe_cmpR (or_cmp hu o) ha hb hm) fun _ _ _ h => rd_two h
theorem t_cmp {o : CmpOp} (hu : X.A.units + 65 < cLine) (ha : PE X x (rdE X.K wa)) (hb : PE X y (rdE X.K wb)) (hm : behindInMarks o y = false) : PT X (.Compare x [o] [y] pos) (rdT X.K fun ρ S Q => wa ρ S fun d S1 => wb ρ S1 fun u S2 => wpCmp o d u S2 fun z S3 => match z with
    | .bl k => Q k S3
    | _ => False) := by
  refine PT.imp (pt_cmpR (or_cmp hu o) ha hb hm) fun σ H R ⟨ρ, S, Q, e, rs, hw, post⟩ => ?_
  refine rd_two ⟨ρ, S, _, e, rs, hw, fun d S' v H' hq x r rs' => ?_⟩
  split at hq
  · rename_i k
    exact ⟨k, rv_bl r, post k S' H' hq x rs'⟩
  · exact hq.elim
theorem e_neg (ha : PE X x (rdE X.K wa)) : PE X (.UnaryOp .USub x pos) (rdE X.K fun ρ S Q => wa ρ S fun d S1 => match d with
    | .int i => Q (.int (-i)) S1
    | _ => False) := by
  refine PE.imp (pe_un un_neg ha) fun σ H R ⟨ρ, S, Q, e, rs, hw, post⟩ => ?_
  refine rdE_bind e rs hw fun d S1 v H1 hq x1 r1 rs1 => ?_
  split at hq
  · rename_i i
    exact ⟨i, rv_int r1, post.trans x1 |>.here rs1 hq (.i _)⟩
  · exact hq.elim
theorem TruD.rep {K : PySem.W.Frag} {H : Hp} {S : Sto} {d : D} {v : V} {k : Bool} (rs : RepS K S H) (h : TruD S d k) (r : RepV K H d v) : TruV K v H k := by
  cases d with
  | non => rw [rv_non r]; exact h
  | bl b => rw [rv_bl r]; exact h
  | int i => rw [rv_int r]; exact h
  | str s =>
    rw [rv_str r]
    refine ⟨by rw [szL_eq]; exact h.1, ?_⟩
    have h2 := h.2
    rw [h2]
    have e : (s.length != 0) = ((s.length : Int) != 0) := by
      by_cases q : s.length = 0
      · simp [q]
      · have q' : ((s.length : Int)) ≠ 0 := by omega
        rw [bne_iff_ne.mpr q, bne_iff_ne.mpr q']
    exact e
  | tup xs =>
    obtain ⟨_, a, vs, rfl, q, p⟩ := rv_tup r
    refine .inr (.inl ⟨vs, q, ?_⟩)
    have h : k = !xs.isEmpty := h
    rw [h]
    have := p.length
    cases vs <;> cases xs <;> simp_all
  | cl xs =>
    obtain ⟨_, a, vs, rfl, q, p⟩ := rv_cl r
    refine .inl ⟨vs, q.sq, ?_⟩
    have h : k = !xs.isEmpty := h
    rw [h]
    have := p.length
    cases vs <;> cases xs <;> simp_all
  | ref a =>
    obtain ⟨xs, e, h⟩ := h
    obtain ⟨_, vs, hH, p⟩ := rs.lst e
    rw [rv_ref r]
    refine .inl ⟨vs, .of hH, ?_⟩
    rw [h]
    have := p.length
    cases vs <;> cases xs <;> simp_all
theorem e_not (ha : PE X x (rdE X.K wa)) : PE X (.UnaryOp .Not x pos) (rdE X.K fun ρ S Q => wa ρ S fun d S1 => ∃ k, TruD S1 d k ∧ Q (.bl (!k)) S1) := by
  refine PE.imp (pe_notT ha) fun σ H R ⟨ρ, S, Q, e, rs, hw, post⟩ => ?_
  refine rdE_bind e rs hw fun d S1 v H1 ⟨k, ht, hq⟩ x1 r1 rs1 => ?_
  exact ⟨k, ht.rep rs1 r1, post.trans x1 |>.here rs1 hq (.b _)⟩
theorem e_and {r : List Expr} (ha : PE X x (rdE X.K wa)) (hb : PE X (.BoolOp .And (y :: r) pos) (rdE X.K wb)) : PE X (.BoolOp .And (x :: y :: r) pos) (rdE X.K fun ρ S Q => wa ρ S fun d S1 => match d with
    | .bl true => wb ρ S1 Q
    | .bl false => Q (.bl false) S1
    | _ => False) := by
  refine PE.imp (pe_and ha hb) fun σ H R ⟨ρ, S, Q, e, rs, hw, post⟩ => ?_
  refine rdE_bind e rs hw fun d S1 v H1 hq x1 r1 rs1 => ?_
  split at hq
  · refine ⟨true, rv_bl r1, ?_⟩
    rw [if_pos rfl]
    exact rdE_bind (e.mono (x1.tx rs)) rs1 hq fun u S2 v2 H2 hq2 x2 r2 rs2 => post u S2 v2 H2 hq2 (x1.trans x2) r2 rs2
  · refine ⟨false, rv_bl r1, ?_⟩
    rw [if_neg Bool.false_ne_true]
    exact post.trans x1 |>.here rs1 hq (.b _)
  · exact hq.elim
theorem e_or {r : List Expr} (ha : PE X x (rdE X.K wa)) (hb : PE X (.BoolOp .Or (y :: r) pos) (rdE X.K wb)) : PE X (.BoolOp .Or (x :: y :: r) pos) (rdE X.K fun ρ S Q => wa ρ S fun d S1 => match d with
    | .bl true => Q (.bl true) S1
    | .bl false => wb ρ S1 Q
    | _ => False) := by
  refine PE.imp (pe_or ha hb) fun σ H R ⟨ρ, S, Q, e, rs, hw, post⟩ => ?_
  refine rdE_bind e rs hw fun d S1 v H1 hq x1 r1 rs1 => ?_
  split at hq
  · refine ⟨true, rv_bl r1, ?_⟩
    rw [if_pos rfl]
    exact post.trans x1 |>.here rs1 hq (.b _)
  · refine ⟨false, rv_bl r1, ?_⟩
    rw [if_neg Bool.false_ne_true]
    exact rdE_bind (e.mono (x1.tx rs)) rs1 hq fun u S2 v2 H2 hq2 x2 r2 rs2 => post u S2 v2 H2 hq2 (x1.trans x2) r2 rs2
  · exact hq.elim
theorem lastMarks2 {o p : CmpOp} {b c : Expr} (h : behindInMarks p c = false) : lastMarks [o, p] [b, c] = false := h
theorem e_chn {o p : CmpOp} (hu : X.A.units + 65 < cLine) (ha : PE X x (rdE X.K wa)) (hb : PE X y (rdE X.K wb)) (hd : PE X z (rdE X.K wd)) (hm : behindInMarks p z = false) : PE X (.Compare x [o, p] [y, z] pos) (rdE X.K fun ρ S Q => wa ρ S fun d S1 => wb ρ S1 fun u S2 => wpCmp o d u S2 fun t S3 => match t with
    | .bl true => wd ρ S3 fun e S4 => wpCmp p u e S4 Q
    | .bl false => Q (.bl false) S3
    | _ => False) := by
  refine PE.imp (pe_chain (or_cmp hu o) (or_cmp hu p) ha hb hd (lastMarks2 hm)) fun σ H R ⟨ρ, S, Q, e, rs, hw, post⟩ => ?_
  refine rdE_bind e rs hw fun d S1 v H1 hq x1 r1 rs1 => ?_
  refine rdE_bind (e.mono (x1.tx rs)) rs1 hq fun u S2 v2 H2 hq2 x2 r2 rs2 => ?_
  refine ⟨d, u, S2, _, RepV.mono (x2.tx rs1) _ _ r1, r2, rs2, hq2, fun t S3 v3 H3 hq3 x3 r3 rs3 => ?_⟩
  have x13 := (x1.trans x2).trans x3
  split at hq3
  · refine ⟨true, rv_bl r3, ?_⟩
    rw [if_pos rfl]
    refine rdE_bind (e.mono (x13.tx rs)) rs3 hq3 fun f S4 v4 H4 hq4 x4 r4 rs4 => ?_
    exact ⟨u, f, S4, Q, RepV.mono ((x3.trans x4).tx rs2) _ _ r2, r4, rs4, hq4, post.trans (x13.trans x4)⟩
  · refine ⟨false, rv_bl r3, ?_⟩
    rw [if_neg Bool.false_ne_true]
    exact post.trans x13 |>.here rs3 hq3 (.b _)
  · exact hq3.elim
theorem t_chn {o p : CmpOp} (hu : X.A.units + 65 < cLine) (ha : PE X x (rdE X.K wa)) (hb : PE X y (rdE X.K wb)) (hd : PE X z (rdE X.K wd)) (hm : behindInMarks p z = false) : PT X (.Compare x [o, p] [y, z] pos) (rdT X.K fun ρ S Q => wa ρ S fun d S1 => wb ρ S1 fun u S2 => wpCmp o d u S2 fun t S3 => match t with
    | .bl true => wd ρ S3 fun e S4 => wpCmp p u e S4 fun z S5 => match z with
      | .bl k => Q k S5
      | _ => False
    | .bl false => Q false S3
    | _ => False) := by
  refine PT.imp (pt_chain (or_cmp hu o) (or_cmp hu p) ha hb hd (lastMarks2 hm)) fun σ H R ⟨ρ, S, Q, e, rs, hw, post⟩ => ?_
  refine rdE_bind e rs hw fun d S1 v H1 hq x1 r1 rs1 => ?_
  refine rdE_bind (e.mono (x1.tx rs)) rs1 hq fun u S2 v2 H2 hq2 x2 r2 rs2 => ?_
  refine ⟨d, u, S2, _, RepV.mono (x2.tx rs1) _ _ r1, r2, rs2, hq2, fun t S3 v3 H3 hq3 x3 r3 rs3 => ?_⟩
  have x13 := (x1.trans x2).trans x3
  split at hq3
  · refine ⟨true, rv_bl r3, ?_⟩
    rw [if_pos rfl]
    refine rdE_bind (e.mono (x13.tx rs)) rs3 hq3 fun f S4 v4 H4 hq4 x4 r4 rs4 => ?_
    refine ⟨u, f, S4, _, RepV.mono ((x3.trans x4).tx rs2) _ _ r2, r4, rs4, hq4, fun t S5 v5 H5 hq5 x5 r5 rs5 => ?_⟩
    split at hq5
    · rename_i k
      exact ⟨k, rv_bl r5, post k S5 H5 hq5 ((x13.trans x4).trans x5) rs5⟩
    · exact hq5.elim
  · refine ⟨false, rv_bl r3, ?_⟩
    rw [if_neg Bool.false_ne_true]
    exact ⟨false, rfl, post false S3 H3 hq3 x13 rs3⟩
  · exact hq3.elim
theorem e_ite {wt : Rho → Sto → (Bool → Sto → Prop) → Prop} (ht : PT X z (rdT X.K wt)) (ha : PE X x (rdE X.K wa)) (hb : PE X y (rdE X.K wb)) : PE X (.IfExp z x y pos) (rdE X.K fun ρ S Q => wt ρ S fun k S1 => match k with
    | true => wa ρ S1 Q
    | false => wb ρ S1 Q) := by
  refine PE.imp (pe_ifExp ht ha hb) fun σ H R ⟨ρ, S, Q, e, rs, hw, post⟩ => ?_
  refine ⟨ρ, S, _, e, rs, hw, fun k S1 H1 hq x1 rs1 => ?_⟩
  cases k with
  | true =>
    rw [if_pos rfl]
    exact rdE_bind (e.mono (x1.tx rs)) rs1 hq fun u S2 v2 H2 hq2 x2 r2 rs2 => post u S2 v2 H2 hq2 (x1.trans x2) r2 rs2
  | false =>
    rw [if_neg Bool.false_ne_true]
    exact rdE_bind (e.mono (x1.tx rs)) rs1 hq fun u S2 v2 H2 hq2 x2 r2 rs2 => post u S2 v2 H2 hq2 (x1.trans x2) r2 rs2
theorem e_ix (hs : notSlice y = true) (ha : PE X x (rdE X.K wa)) (hb : PE X y (rdE X.K wb)) : PE X (.Subscript x y pos) (rdE X.K fun ρ S Q => wa ρ S fun d S1 => wb ρ S1 fun u S2 => wpIx d u S2 Q) :=
  PE.imp (pe_ix ix_ok ha hb (plainIx_of hs)) fun _ _ _ h => rd_two h
/-- a value's truth -/
theorem t_val {e : Expr} {w : Rho → Sto → QE → Prop} (h : PE X e (rdE X.K w)) (he : ∀ whole, isTrue e X.env whole = (do let v ← whole; standAt e.pos; holding [v] (truthy v))) :
    PT X e (rdT X.K fun ρ S Q => w ρ S fun d S1 => ∃ k, TruD S1 d k ∧ Q k S1) := by
  refine PT.imp (pt_truth h he) fun σ H R ⟨ρ, S, Q, e, rs, hw, post⟩ => ?_
  exact rdE_bind e rs hw fun d S1 v H1 ⟨k, ht, hq⟩ x1 r1 rs1 => ⟨k, ht.rep rs1 r1, post k S1 H1 hq x1 rs1⟩
variable {ta tb : Rho → Sto → (Bool → Sto → Prop) → Prop}
theorem t_not (ha : PT X x (rdT X.K ta)) : PT X (.UnaryOp .Not x pos) (rdT X.K fun ρ S Q => ta ρ S fun k S1 => Q (!k) S1) := by
  refine PT.imp (pt_not ha) fun σ H R ⟨ρ, S, Q, e, rs, hw, post⟩ => ?_
  exact ⟨ρ, S, _, e, rs, hw, fun k S1 H1 hq x1 rs1 => post (!k) S1 H1 hq x1 rs1⟩
theorem pw_of {op : BoolOp} {es : List Expr} {t : TT} (h : PT X (.BoolOp op es pos) t) : PW X (.BoolOp op es pos) t := ⟨fun _ pins s σ H Q I q => h.run pins s σ H Q I q⟩
theorem t_and {r : List Expr} (ha : PT X x (rdT X.K ta)) (hb : PW X (.BoolOp .And (y :: r) pos) (rdT X.K tb)) : PT X (.BoolOp .And (x :: y :: r) pos) (rdT X.K fun ρ S Q => ta ρ S fun k S1 => match k with
    | true => tb ρ S1 Q
    | false => Q false S1) := by
  refine PT.imp (pw_and ha hb).pt fun σ H R ⟨ρ, S, Q, e, rs, hw, post⟩ => ?_
  refine ⟨ρ, S, _, e, rs, hw, fun k S1 H1 hq x1 rs1 => ?_⟩
  cases k with
  | true =>
    rw [if_pos rfl]
    exact ⟨ρ, S1, Q, e.mono (x1.tx rs), rs1, hq, fun k S2 H2 hq2 x2 rs2 => post k S2 H2 hq2 (x1.trans x2) rs2⟩
  | false =>
    rw [if_neg Bool.false_ne_true]
    exact post false S1 H1 hq x1 rs1
theorem t_or {r : List Expr} (ha : PT X x (rdT X.K ta)) (hb : PW X (.BoolOp .Or (y :: r) pos) (rdT X.K tb)) : PT X (.BoolOp .Or (x :: y :: r) pos) (rdT X.K fun ρ S Q => ta ρ S fun k S1 => match k with
    | true => Q true S1
    | false => tb ρ S1 Q) := by
  refine PT.imp (pw_or ha hb).pt fun σ H R ⟨ρ, S, Q, e, rs, hw, post⟩ => ?_
  refine ⟨ρ, S, _, e, rs, hw, fun k S1 H1 hq x1 rs1 => ?_⟩
  cases k with
  | true =>
    rw [if_pos rfl]
    exact post true S1 H1 hq x1 rs1
  | false =>
    rw [if_neg Bool.false_ne_true]
    exact ⟨ρ, S1, Q, e.mono (x1.tx rs), rs1, hq, fun k S2 H2 hq2 x2 rs2 => post k S2 H2 hq2 (x1.trans x2) rs2⟩
variable {wes : Rho → Sto → (List D → Sto → Prop) → Prop} {xs : List Expr} {n : Nat}
theorem a_nil : PA X [] (rdA X.K 0 fun _ S Q => Q [] S) := PA.imp pa_nil fun σ H R ⟨ρ, S, Q, e, rs, hw, post⟩ => post [] S [] H rfl hw Ext.refl .nil rs
theorem a_cons (hs : notStar x = true) (ha : PE X x (rdE X.K wa)) (hb : PA X xs (rdA X.K n wes)) : PA X (x :: xs) (rdA X.K (n + 1) fun ρ S Q => wa ρ S fun d S1 => wes ρ S1 fun ds S2 => Q (d :: ds) S2) := by
  refine PA.imp (pa_cons ha hb (starEach_cons hs)) fun σ H R ⟨ρ, S, Q, e, rs, hw, post⟩ => ?_
  refine rdE_bind e rs hw fun d S1 v H1 hq x1 r1 rs1 => ?_
  refine ⟨ρ, S1, _, e.mono (x1.tx rs), rs1, hq, fun ds S2 vs H2 hn hq2 x2 r2 rs2 => ?_⟩
  exact post (d :: ds) S2 (v :: vs) H2 (by rw [List.length_cons, hn]) hq2 (x1.trans x2) (.cons (RepV.mono (x2.tx rs1) _ _ r1) r2) rs2
theorem e_tup {k : Nat} (h : PA X xs (rdA X.K n wes)) : PE X (.Tuple xs k pos) (rdE X.K fun ρ S Q => wes ρ S fun ds S1 => ds.length ≤ szL ∧ Q (.tup ds) S1) := by
  refine PE.imp (pe_tupF h) fun σ H R ⟨ρ, S, Q, e, rs, hw, post⟩ => ?_
  refine ⟨ρ, S, _, e, rs, hw, fun ds S1 vs H1 _ ⟨hz, hq⟩ x1 r1 rs1 => ⟨by rw [r1.length, szL_eq]; exact hz, fun p ob hp hd => ?_⟩⟩
  exact (post.trans x1).newT rs1 hp hd hz r1 hq
theorem e_lst (h : PA X xs (rdA X.K n wes)) : PE X (.List xs pos) (rdE X.K fun ρ S Q => wes ρ S fun ds S1 => ds.length ≤ szL ∧ ∀ p, S1 p = none → Q (.ref p) (sup S1 p (.lst ds))) := by
  refine PE.imp (pe_lst h) fun σ H R ⟨ρ, S, Q, e, rs, hw, post⟩ => ?_
  refine ⟨ρ, S, _, e, rs, hw, fun ds S1 vs H1 _ ⟨hz, hq⟩ x1 r1 rs1 => ⟨by rw [r1.length, szL_eq]; exact hz, fun p hp => ?_⟩⟩
  exact (post.trans x1).newL rs1 hp hz r1 hq
/-- a call by values over its arguments -/
theorem rd_call {K : PySem.W.Frag} {w : DSp} {σ : L2.St} {H : Hp} {R : VK} (h : rdE K (fun ρ S Q => wes ρ S fun ds S1 => w ds S1 Q) σ H R) : rdA K n wes σ H fun vs H1 => rdN K w vs H1 R := by
  obtain ⟨ρ, S, Q, e, rs, hw, post⟩ := h
  exact ⟨ρ, S, _, e, rs, hw, fun ds S1 vs H1 _ hq x1 r1 rs1 => ⟨ds, S1, Q, r1, rs1, hq, post.trans x1⟩⟩
theorem boot_bi (b : BI) (h : b.ok = true) : bootBuiltins b.nm = some b.val := by
  cases b <;> first | (cases h; done) | (show bootBuiltins _ = some _; decide +kernel)
theorem e_bi {b : BI} {p : Pos} (hb : b.ok = true) (hc : X.calm = true) (hu : X.A.units + 100 < cLine) (hg : Gl X b.nm) (hm : X.mg b.nm = none) (hx : (x :: xs).all notStar = true) (ha : PA X (x :: xs) (rdA X.K n wes)) (hdb : (b.nm == ("__debug__" : Str)) = false) :
    PE X (.Call (.Name b.nm p) (x :: xs) [] pos) (rdE X.K fun ρ S Q => wes ρ S fun ds S1 => wpBI b ds S1 Q) := by
  rw [List.all_cons, Bool.and_eq_true] at hx
  have hv := boot_bi b hb
  have ok := bi_ok (X := X) hc hu b
  have hnm : b.nm ≠ "__name__" := by cases b <;> first | (cases hb; done) | (show (_ : Str) ≠ _; decide +kernel)
  have fin : ∀ σ H R, rdE X.K (fun ρ S Q => wes ρ S fun ds S1 => wpBI b ds S1 Q) σ H R → tCB (rdN X.K (wpBI b)) (rdA X.K n wes) σ H R := fun σ H R h => rd_call h
  cases e : b.val with
  | builtin id =>
    rw [e] at hv ok
    exact PE.imp (pe_callB ok hg hm hv ha hnm hdb (starEach_cons hx.1) (backTo_plain hx.2)) fin
  | type T =>
    rw [e] at hv ok
    exact PE.imp (pe_callTy ok hg hm hv ha hnm hdb (starEach_cons hx.1) (backTo_plain hx.2)) fin
  | _ => exfalso; revert e; cases b <;> first | (cases hb; done) | nofun
theorem e_call {nm : Str} {p : Pos} {w : DSp} (F : FnIn X nm w) (xe : X.xe = fun _ _ => False) (hg : Gl X nm) (hx : (x :: xs).all notStar = true) (ha : PA X (x :: xs) (rdA X.K n wes)) (hdb : (nm == ("__debug__" : Str)) = false) :
    PE X (.Call (.Name nm p) (x :: xs) [] pos) (rdE X.K fun ρ S Q => wes ρ S fun ds S1 => w ds S1 Q) := by
  rw [List.all_cons, Bool.and_eq_true] at hx
  obtain ⟨k, f, fd, ps, ok, hr, hm, hk, hb, hl⟩ := F
  refine PE.imp (pe_call (E := E0) ok hr hg hm hk hb .nil pass0 ha hdb (starEach_cons hx.1) (backTo_plain hx.2)) fun σ H R ⟨ρ, S, Q, e, rs, hw, post⟩ => ?_
  refine ⟨ρ, S, _, e, rs, hw, fun ds S1 vs H1 _ hq x1 r1 rs1 => ?_⟩
  show spOf X.K ps.length w (vs ++ []) H1 R E0
  rw [List.append_nil]
  exact ⟨ds, S1, Q, hl _ _ _ hq, r1, rs1, hq, post.trans x1⟩
theorem tyMI_rep {K : PySem.W.Frag} {H : Hp} {S : Sto} {m : MI} {d : D} {v : V} (hm : m.ok = true) (rs : RepS K S H) (h : tyMI m d S) (r : RepV K H d v) : TyI K (if m = .indexT then "tuple" else "list") v H := by
  cases m with
  | indexT =>
    obtain ⟨xs, rfl⟩ := h
    obtain ⟨_, a, vs, e, q, _⟩ := rv_tupN r
    exact .inr ⟨rfl, a, vs, e, q⟩
  | get2 => cases hm
  | setdefault => cases hm
  | _ =>
    obtain ⟨a, xs, rfl, e⟩ := h
    obtain ⟨_, vs, hH, _⟩ := rs.lst e
    rw [rv_ref r]
    exact .inl (.inl ⟨rfl, vs, .of hH⟩)
structure SlotOf (T : String) (name : Str) (id : String) : Prop where
  pa : PlainAttrs T
  slot : Slot T name id
  ty : typeOf (.builtin id) = pure (.type "method_descriptor")
theorem slot_mi (m : MI) (h : m.ok = true) : SlotOf (if m = .indexT then "tuple" else "list") m.nm m.ident := by
  cases m <;> first | (cases h; done) | skip
  · exact ⟨PySem.F.plainAttrs_list, PySem.F.slot_list_append, PySem.F.type_list_append⟩
  · exact ⟨PySem.F.plainAttrs_list, PySem.F.slot_list_pop, PySem.F.type_list_pop⟩
  · exact ⟨PySem.F.plainAttrs_list, PySem.F.slot_list_pop, PySem.F.type_list_pop⟩
  · exact ⟨PySem.F.plainAttrs_list, PySem.F.slot_list_extend, PySem.F.type_list_extend⟩
  · exact ⟨PySem.F.plainAttrs_tuple, PySem.F.slot_tuple_index, PySem.F.type_tuple_index⟩
theorem e_mt0 {m : MI} {apos : Pos} (hmo : m.ok = true) (hu : X.A.units + 100 < cLine) (hp : plainBase x = true) (hl : (apos.endLine == pos.line) = true) (ho : PE X x (rdE X.K wa)) :
    PE X (.Call (.Attribute x m.nm apos) [] [] pos) (rdE X.K fun ρ S Q => wa ρ S fun d S1 => tyMI m d S1 ∧ wpMI m d [] S1 Q) := by
  have sl := slot_mi m hmo
  have ok := mi_ok (X := X) hu m
  refine PE.imp (pe_bmI0 sl.pa sl.slot sl.ty ok ho (base_plain hp) hl) fun σ H R ⟨ρ, S, Q, e, rs, hw, post⟩ => ?_
  refine rdE_bind e rs hw fun d S1 v H1 ⟨ht, hq⟩ x1 r1 rs1 => ⟨tyMI_rep hmo rs1 ht r1, ?_⟩
  exact ⟨d, [], S1, Q, r1, .nil, rs1, hq, post.trans x1⟩
theorem e_mt {m : MI} {apos : Pos} (hmo : m.ok = true) (hu : X.A.units + 100 < cLine) (hp : plainBase x = true) (hl : (apos.endLine == pos.line) = true) (hx : (y :: xs).all notStar = true) (hn : (y :: xs).length < 20) (ho : PE X x (rdE X.K wa)) (ha : PA X (y :: xs) (rdA X.K n wes)) :
    PE X (.Call (.Attribute x m.nm apos) (y :: xs) [] pos) (rdE X.K fun ρ S Q => wa ρ S fun d S1 => tyMI m d S1 ∧ wes ρ S1 fun ds S2 => wpMI m d ds S2 Q) := by
  have sl := slot_mi m hmo
  have ok := mi_ok (X := X) hu m
  have hx' := hx
  rw [List.all_cons, Bool.and_eq_true] at hx
  refine PE.imp (pe_bmI sl.pa sl.slot sl.ty ok ho ha (base_plain hp) ?_ hl (starEach_cons hx.1) (backTo_plain hx.2)) fun σ H R ⟨ρ, S, Q, e, rs, hw, post⟩ => ?_
  · rw [Bool.and_eq_true, Bool.and_eq_true]
    exact ⟨⟨backTo_all hx', by simp [keywordEach, backToKw]⟩, decide_eq_true (by simp at hn ⊢; omega)⟩
  · refine rdE_bind e rs hw fun d S1 v H1 ⟨ht, hq⟩ x1 r1 rs1 => ⟨tyMI_rep hmo rs1 ht r1, ?_⟩
    refine ⟨ρ, S1, _, e.mono (x1.tx rs), rs1, hq, fun ds S2 vs H2 _ hq2 x2 r2 rs2 => ?_⟩
    exact ⟨d, ds, S2, Q, RepV.mono (x2.tx rs1) _ _ r1, r2, rs2, hq2, post.trans (x1.trans x2)⟩
end
end G


namespace G
open PySem PySem.Spec PyProof.Rows L2

section
variable {X : Cx} {wa wb : Rho → Sto → QE → Prop} {x y : Expr} {pos : Pos}
def rdO (K : PySem.W.Frag) (w : Rho → Sto → (List D → Sto → Prop) → Prop) : TO := fun σ H R => ∃ (ρ : Rho) (S : Sto) (Q : List D → Sto → Prop), RepE K H ρ σ ∧ RepS K S H ∧ w ρ S Q ∧ ∀ ds S' H', Q ds S' → Ext H S H' S' → RepS K S' H' → ∃ o, partD ds = some o ∧ R o H'
theorem o_none : PO X none (rdO X.K fun _ S Q => Q [] S) := by
  refine ⟨fun pins s σ H R I ⟨ρ, S, Q, e, rs, hw, post⟩ => ?_⟩
  obtain ⟨o, e1, hr⟩ := post [] S H hw Ext.refl rs
  cases e1
  exact po_none.run pins s σ H R I hr
theorem o_some (h : PE X x (rdE X.K wa)) : PO X (some x) (rdO X.K fun ρ S Q => wa ρ S fun d S1 => Q [d] S1) := by
  have p := po_some h
  refine ⟨fun pins s σ H R I ⟨ρ, S, Q, e, rs, hw, post⟩ => p.run pins s σ H R I ?_⟩
  refine rdE_bind e rs hw fun d S1 v H1 hq x1 r1 rs1 => ?_
  obtain ⟨o, e1, hr⟩ := post [d] S1 H1 hq x1 rs1
  cases d with
  | int i => cases e1; exact ⟨i, rv_int r1, hr⟩
  | _ => cases e1
theorem e_sl {lo hi : Option Expr} {p2 : Pos} {wl wh : Rho → Sto → (List D → Sto → Prop) → Prop} (he : PE X x (rdE X.K wa)) (hl : PO X lo (rdO X.K wl)) (hh : PO X hi (rdO X.K wh)) :
    PE X (.Subscript x (.Slice lo hi none p2) pos) (rdE X.K fun ρ S Q => wa ρ S fun d S1 => wl ρ S1 fun l S2 => match partD l with
      | some l => wh ρ S2 fun h S3 => match partD h with
        | some h => wpSl d l h S3 Q
        | none => False
      | none => False) := by
  refine PE.imp (pe_slice sl_ok he hl hh) fun σ H R ⟨ρ, S, Q, e, rs, hw, post⟩ => ?_
  refine rdE_bind e rs hw fun d S1 v H1 hq x1 r1 rs1 => ?_
  refine ⟨ρ, S1, _, e.mono (x1.tx rs), rs1, hq, fun l S2 H2 hq2 x2 rs2 => ?_⟩
  split at hq2
  · rename_i l' el
    refine ⟨l', el, ρ, S2, _, e.mono ((x1.trans x2).tx rs), rs2, hq2, fun h S3 H3 hq3 x3 rs3 => ?_⟩
    split at hq3
    · rename_i h' eh
      exact ⟨h', eh, d, S3, Q, RepV.mono ((x2.trans x3).tx rs1) _ _ r1, rs3, hq3, post.trans ((x1.trans x2).trans x3)⟩
    · exact hq3.elim
  · exact hq2.elim
theorem e_rev {h : Option Expr} {k j : Nat} {p1 p2 p3 : Pos} (rh : RevHi k h) (he : PE X x (rdE X.K wa)) : PE X (.Subscript x (.Slice none h (some (.UnaryOp .USub (.Constant (.int 1) j p1) p2)) p3) pos) (rdE X.K fun ρ S Q => wa ρ S fun d S1 => wpRev k d S1 Q) := by
  refine PE.imp (pe_revT rh he) fun σ H R ⟨ρ, S, Q, e, rs, hw, post⟩ => ?_
  refine rdE_bind e rs hw fun d S1 v H1 hq x1 r1 rs1 => ?_
  cases d with
  | tup xs =>
    obtain ⟨z, a, vs, rfl, q, p⟩ := rv_tup r1
    refine ⟨a, vs, rfl, q, fun pp ob hp hd => (post.trans x1).newT rs1 hp hd ?_ ((p.drop k).reverse) hq⟩
    rw [List.length_reverse, List.length_drop]
    omega
  | _ => exact hq.elim
end

/-- a tuple as a loop hands it out, or any value -/
def RepW (K : PySem.W.Frag) (H : Hp) (d : D) (v : V) : Prop := RepV K H d v ∨ ∃ ds a vs, d = .tup ds ∧ v = .ref a ∧ SqT K H a vs ∧ RepVs K H ds vs
def OutOf (sl : List Nat) (σ σ' : L2.St) : Prop := ∀ vs : List Nat, (∀ i ∈ sl, i ∈ vs) → wipe σ' vs = wipe σ vs
def rdG (K : PySem.W.Frag) (sl : List Nat) (W : PySem.W.Frag → Hp → D → V → Prop) (t : D → Rho → Sto → (Rho → Prop) → Prop) : TG := fun v σ H R => ∃ (d : D) (ρ : Rho) (S : Sto) (Q : Rho → Prop), W K H d v ∧ RepE K H ρ σ ∧ RepS K S H ∧ t d ρ S Q ∧ ∀ ρ' σ', Q ρ' → RepE K H ρ' σ' → OutOf sl σ σ' → R σ' H
def rdGs (K : PySem.W.Frag) (sl : List Nat) (t : List D → Rho → Sto → (Rho → Prop) → Prop) : TGs := fun vs σ H R => ∃ (ds : List D) (ρ : Rho) (S : Sto) (Q : Rho → Prop), RepVs K H ds vs ∧ RepE K H ρ σ ∧ RepS K S H ∧ t ds ρ S Q ∧ ∀ ρ' σ', Q ρ' → RepE K H ρ' σ' → OutOf sl σ σ' → R σ' H
theorem wipe_get (σ : L2.St) (j : Nat) : ∀ vs : List Nat, (wipe σ vs)[j]? = if j ∈ vs ∧ j < σ.length then some none else σ[j]?
  | [] => by simp [wipe]
  | v :: vs => by
    unfold wipe
    by_cases hv : v = j
    · subst hv
      by_cases hl : v < σ.length
      · rw [List.getElem?_set_self (by rw [wipe_length]; exact hl), if_pos ⟨by simp, hl⟩]
      · rw [List.getElem?_eq_none (by rw [List.length_set, wipe_length]; omega), if_neg (by simp [hl]), List.getElem?_eq_none (by omega)]
    · rw [List.getElem?_set_ne hv, wipe_get σ j vs]
      have : (j ∈ v :: vs) ↔ (j ∈ vs) := by simp [Ne.symm hv]
      simp only [this]
theorem OutOf.set {i : Nat} {σ : L2.St} {v : Option V} : OutOf [i] σ (σ.set i v) := fun vs h => by
  have hi : i ∈ vs := h i (by simp)
  apply List.ext_getElem?
  intro j
  rw [wipe_get, wipe_get, List.length_set]
  by_cases hj : i = j
  · subst hj
    by_cases hl : i < σ.length
    · rw [if_pos ⟨hi, hl⟩, if_pos ⟨hi, hl⟩]
    · rw [if_neg (by simp [hl]), if_neg (by simp [hl]), List.getElem?_eq_none (by rw [List.length_set]; omega), List.getElem?_eq_none (by omega)]
  · rw [List.getElem?_set_ne hj]
theorem OutOf.refl {sl : List Nat} {σ : L2.St} : OutOf sl σ σ := fun _ _ => rfl
theorem OutOf.app {a b : List Nat} {σ σ1 σ2 : L2.St} (h : OutOf a σ σ1) (k : OutOf b σ1 σ2) : OutOf (a ++ b) σ σ2 := fun vs hv =>
  (k vs fun i hi => hv i (by simp [hi])).trans (h vs fun i hi => hv i (by simp [hi]))
section
variable {X : Cx} {c : CkT} {T : Tab} {sc : Scope} {cs : List Str}
theorem chTs_star {c : CkT} {sc : Scope} {cs : List Str} : ∀ {ts : ITs} {es : List Expr}, chTs c sc cs ts es = true → es.all notStar = true
  | .nil, [], _ => rfl
  | .cons t ts, e :: es, h => by
    unfold chTs at h
    rw [Bool.and_eq_true, Bool.and_eq_true] at h
    rw [List.all_cons, h.1.1, chTs_star h.2]; rfl
  | .nil, e :: es, h => by unfold chTs at h; cases h
  | .cons _ _, [], h => by unfold chTs at h; cases h
mutual
theorem asgT_ex : ∀ (t : IT) {d : D} {ρ : Rho} {S : Sto} {Q : Rho → Prop}, asgT t d ρ S Q → ∃ ρ', Q ρ'
  | .nm i, _, _, _, _, h => by unfold asgT at h; exact ⟨_, h⟩
  | .tp ts, d, _, _, _, h => by
    unfold asgT at h
    cases d <;> first | exact h.elim | exact asgTs_ex ts h
theorem asgTs_ex : ∀ (ts : ITs) {ds : List D} {ρ : Rho} {S : Sto} {Q : Rho → Prop}, asgTs ts ds ρ S Q → ∃ ρ', Q ρ'
  | .nil, _, _, _, _, h => by unfold asgTs at h; exact ⟨_, h.2⟩
  | .cons t ts, ds, _, _, _, h => by
    unfold asgTs at h
    cases ds with
    | nil => exact h.elim
    | cons d r =>
      obtain ⟨ρ', h'⟩ := asgT_ex t h
      exact asgTs_ex ts h'
end
theorem chTs_len {c : CkT} {sc : Scope} {cs : List Str} : ∀ {ts : ITs} {es : List Expr} {ds : List D} {ρ : Rho} {S : Sto} {Q : Rho → Prop}, chTs c sc cs ts es = true → asgTs ts ds ρ S Q → ds.length = es.length
  | .nil, [], ds, _, _, _, _, h => by unfold asgTs at h; rw [h.1]; rfl
  | .cons t ts, e :: es, ds, _, _, _, hc, h => by
    unfold chTs at hc
    rw [Bool.and_eq_true] at hc
    unfold asgTs at h
    cases ds with
    | nil => exact h.elim
    | cons d r =>
      obtain ⟨ρ', h'⟩ := asgT_ex t h
      rw [List.length_cons, List.length_cons, chTs_len hc.2 h']
  | .nil, _ :: _, _, _, _, _, hc, _ => by unfold chTs at hc; cases hc
  | .cons _ _, [], _, _, _, _, hc, _ => by unfold chTs at hc; cases hc
mutual
theorem soundT : ∀ (t : IT) (e : Expr), Gd X c T sc cs → chT c sc cs t e = true → PG X e (rdG X.K (slotsT t) RepV (asgT t))
  | .nm i, e, g, h => by
    cases e <;> first | (unfold chT at h; cases h; done) | skip
    rename_i x p
    unfold chT at h
    rw [Bool.and_eq_true, decide_eq_true_eq] at h
    obtain ⟨hl, hf⟩ := g.loc h.2
    have hN : X.N[i]? = some x := by rw [g.N]; exact h.1
    have q := pg_name (X := X) (pos := p) g.nd hN hl hf
    refine ⟨fun pins s σ H v u R I r ⟨d, ρ, S, Q, rv, e, rs, hw, post⟩ => q.run pins s σ H v u R I r ?_⟩
    unfold asgT at hw
    exact post _ _ hw (e.set i rv) (by unfold slotsT; exact OutOf.set)
  | .tp ts, e, g, h => by
    have q := soundTw ts e g h
    refine ⟨fun pins s σ H v u R I r ⟨d, ρ, S, Q, rv, e, rs, hw, post⟩ => q.run pins s σ H v u R I r ⟨d, ρ, S, Q, .inl rv, e, rs, hw, post⟩⟩
theorem soundTw : ∀ (ts : ITs) (e : Expr), Gd X c T sc cs → chT c sc cs (.tp ts) e = true → PG X e (rdG X.K (slotsT (.tp ts)) RepW (asgT (.tp ts)))
  | ts, e, g, h => by
    cases e <;> first | (unfold chT at h; cases h; done) | skip
    rename_i es k p
    unfold chT at h
    have st := assignEach_len (env := X.env) (chTs_star h)
    have q := pg_tup (X := X) (k := k) (pos := p) g.cl (soundTs ts es g h) st.1 st.2
    refine ⟨fun pins s σ H v u R I r ⟨d, ρ, S, Q, rv, e, rs, hw, post⟩ => q.run pins s σ H v u R I r ?_⟩
    unfold asgT at hw
    cases d with
    | tup xs =>
      have : ∃ a vs, v = .ref a ∧ SqT X.K H a vs ∧ RepVs X.K H xs vs := by
        rcases rv with rv | ⟨ds, a, vs, e1, e2, q, p⟩
        · obtain ⟨_, a, vs, e, q, p⟩ := rv_tup rv
          exact ⟨a, vs, e, q, p⟩
        · cases e1
          exact ⟨a, vs, e2, q, p⟩
      obtain ⟨a, vs, e2, hq, p⟩ := this
      refine ⟨a, vs, e2, hq, by rw [p.length]; exact chTs_len h hw, ?_⟩
      exact ⟨xs, ρ, S, Q, p, e, rs, hw, fun ρ' σ' a b o => post ρ' σ' a b (by unfold slotsT; exact o)⟩
    | _ => exact hw.elim
theorem soundTs : ∀ (ts : ITs) (es : List Expr), Gd X c T sc cs → chTs c sc cs ts es = true → PGs X es (rdGs X.K (slotsTs ts) (asgTs ts))
  | .nil, [], g, h => by
    refine ⟨fun pins s σ H vs us R I r ⟨ds, ρ, S, Q, rv, e, rs, hw, post⟩ => pgs_nil.run pins s σ H vs us R I r ?_⟩
    unfold asgTs at hw
    obtain ⟨rfl, hq⟩ := hw
    exact ⟨rv.nil_inv, post ρ σ hq e (by unfold slotsTs; exact OutOf.refl)⟩
  | .cons t ts, x :: xs, g, h => by
    unfold chTs at h
    rw [Bool.and_eq_true, Bool.and_eq_true] at h
    have q := pgs_cons (soundT t x g h.1.2) (soundTs ts xs g h.2) (by rw [assignEach_cons h.1.1]; rfl)
    refine ⟨fun pins s σ H vs us R I r ⟨ds, ρ, S, Q, rv, e, rs, hw, post⟩ => q.run pins s σ H vs us R I r ?_⟩
    unfold asgTs at hw
    cases ds with
    | nil => exact hw.elim
    | cons d ds =>
      obtain ⟨v, vr, rfl, r1, r2⟩ := rv.cons_inv
      refine ⟨v, vr, rfl, d, ρ, S, _, r1, e, rs, hw, fun ρ1 σ1 hq e1 o1 => ?_⟩
      exact ⟨ds, ρ1, S, Q, r2, e1, rs, hq, fun ρ2 σ2 hq2 e2 o2 => post ρ2 σ2 hq2 e2 (by unfold slotsTs; exact o1.app o2)⟩
  | .nil, _ :: _, _, h => by unfold chTs at h; cases h
  | .cons _ _, [], _, h => by unfold chTs at h; cases h
end
end
end G


namespace G
open PySem PySem.Spec PyProof.Rows L2 RZ

/-- an iterator over the items xs, from (H0, S0) on, while live holds of the store -/
structure Src (K : PySem.W.Frag) (W : PySem.W.Frag → Hp → D → V → Prop) (H0 : Hp) (S0 : Sto) (J : It) (xs : List D) (live : Sto → Prop) : Prop where
  goes : ∀ i H S, i < xs.length → Ext H0 S0 H S → RepS K S H → live S → J.go i H
  stops : ∀ H S, Ext H0 S0 H S → RepS K S H → live S → J.stop xs.length H
  yields : ∀ i H S x H', i < xs.length → Ext H0 S0 H S → RepS K S H → live S → J.yld i H x H' → ∃ d, xs[i]? = some d ∧ Ext H S H' S ∧ RepS K S H' ∧ W K H' d x
def rdI (K : PySem.W.Frag) (W : PySem.W.Frag → Hp → D → V → Prop) (w : Rho → Sto → (List D → (Sto → Prop) → Sto → Prop) → Prop) : TI := fun σ H R => ∃ (ρ : Rho) (S : Sto) (Q : List D → (Sto → Prop) → Sto → Prop), RepE K H ρ σ ∧ RepS K S H ∧ w ρ S Q ∧
  ∀ xs live S1 H1 J, Q xs live S1 → Ext H S H1 S1 → RepS K S1 H1 → Src K W H1 S1 J xs live → xs.length ≤ szL → R J H1
theorem PI.imp {X : Cx} {tg e : Expr} {t t' : TI} (h : PI X tg e t) (i : ∀ σ H R, t' σ H R → t σ H R) : PI X tg e t' := ⟨fun pins s σ H R I q => h.run pins s σ H R I (i σ H R q)⟩
theorem Src.weak {K : PySem.W.Frag} {H0 : Hp} {S0 : Sto} {J : It} {xs : List D} {live : Sto → Prop} (h : Src K RepV H0 S0 J xs live) : Src K RepW H0 S0 J xs live :=
  ⟨h.goes, h.stops, fun i H S x H' hi e rs l y => let ⟨d, a, b, c, r⟩ := h.yields i H S x H' hi e rs l y; ⟨d, a, b, c, .inl r⟩⟩
theorem rdI.weak {K : PySem.W.Frag} {w : Rho → Sto → (List D → (Sto → Prop) → Sto → Prop) → Prop} {σ : L2.St} {H : Hp} {R : It → Hp → Prop} (h : rdI K RepW w σ H R) : rdI K RepV w σ H R := by
  obtain ⟨ρ, S, Q, e, rs, hw, post⟩ := h
  exact ⟨ρ, S, Q, e, rs, hw, fun xs live S1 H1 J hq x rs1 src hl => post xs live S1 H1 J hq x rs1 src.weak hl⟩
section
variable {X : Cx} {K : PySem.W.Frag} {H0 : Hp} {S0 : Sto}
theorem src_tup {a : Addr} {ds : List D} {vs : List V} (rs0 : RepS K S0 H0) (h : SqT K H0 a vs) (r : RepVs K H0 ds vs) : Src K RepV H0 S0 (Itt K a) ds (fun _ => True) := by
  have hl := r.length
  refine ⟨fun i H S hi e rs _ => ?_, fun H S e rs _ => ?_, fun i H S x H' hi e rs _ y => ?_⟩
  · exact walk_tup.goes i H (by omega) ((e.tx rs0).sqT h)
  · rw [← hl]; exact walk_tup.stops H ((e.tx rs0).sqT h)
  · obtain ⟨rfl, hx⟩ := walk_tup.yields i H x H' (by omega) ((e.tx rs0).sqT h) y
    obtain ⟨d, hd, rd⟩ := r.get' hx
    exact ⟨d, hd, Ext.refl, rs, RepV.mono (e.tx rs0) _ _ rd⟩
theorem src_fz {a : Addr} {ds : List D} {vs : List V} (rs0 : RepS K S0 H0) (h : FzL K H0 a vs) (r : RepVs K H0 ds vs) : Src K RepV H0 S0 (Itl K a) ds (fun _ => True) := by
  have hl := r.length
  refine ⟨fun i H S hi e rs _ => ?_, fun H S e rs _ => ?_, fun i H S x H' hi e rs _ y => ?_⟩
  · exact walk_list.goes i H (by omega) ((e.tx rs0).fzL h).sq
  · rw [← hl]; exact walk_list.stops H ((e.tx rs0).fzL h).sq
  · obtain ⟨rfl, hx⟩ := walk_list.yields i H x H' (by omega) ((e.tx rs0).fzL h).sq y
    obtain ⟨d, hd, rd⟩ := r.get' hx
    exact ⟨d, hd, Ext.refl, rs, RepV.mono (e.tx rs0) _ _ rd⟩
theorem src_lst {a : Addr} {ds : List D} : Src K RepV H0 S0 (Itl K a) ds (fun S => S a = some (.lst ds)) := by
  refine ⟨fun i H S hi e rs l => ?_, fun H S e rs l => ?_, fun i H S x H' hi e rs l y => ?_⟩
  · obtain ⟨_, vs, hH, r⟩ := rs.lst l
    exact walk_list.goes i H (by have := r.length; omega) (SqL.of hH)
  · obtain ⟨_, vs, hH, r⟩ := rs.lst l
    rw [← r.length]
    exact walk_list.stops H (SqL.of hH)
  · obtain ⟨_, vs, hH, r⟩ := rs.lst l
    obtain ⟨rfl, hx⟩ := walk_list.yields i H x H' (by have := r.length; omega) (SqL.of hH) y
    obtain ⟨d, hd, rd⟩ := r.get' hx
    exact ⟨d, hd, Ext.refl, rs, rd⟩
theorem src_range {lo : Int} {n : Nat} : Src K RepV H0 S0 (Itr lo n) ((List.range n).map fun (k : Nat) => D.int (lo + (k : Int))) (fun _ => True) := by
  refine ⟨fun i H S hi e rs l => ?_, fun H S e rs l => ?_, fun i H S x H' hi e rs l y => ?_⟩
  · exact walk_range.goes i H (by simpa using hi) trivial
  · rw [List.length_map, List.length_range]
    exact walk_range.stops H trivial
  · have hi' : i < n := by simpa using hi
    obtain ⟨rfl, rfl⟩ := walk_range.yields i H x H' hi' trivial y
    exact ⟨.int (lo + (i : Int)), by simp [hi'], Ext.refl, rs, .i _⟩
/-- a new pair, not of the store -/
theorem pair_new {H : Hp} {S : Sto} {T : Addr} {x y : V} {d e : D} (rs : RepS K S H) (n : H T = none) (r1 : RepV K H d x) (r2 : RepV K H e y) : Ext H S (upd H T (.tup [x, y])) S ∧ RepS K S (upd H T (.tup [x, y])) ∧ RepW K (upd H T (.tup [x, y])) (.tup [d, e]) (.ref T) :=
  ⟨Ext.new n, rs.new n, .inr ⟨[d, e], T, [x, y], rfl, rfl, SqT.of upd_same, .cons (RepV.mono (TX.new n) _ _ r1) (.cons (RepV.mono (TX.new n) _ _ r2) .nil)⟩⟩
theorem sqL_of_listD {S : Sto} {H : Hp} {d : D} {a : Addr} {ds : List D} (rs : RepS K S H) (l : ListD S d ds) (r : RepV K H d (.ref a)) : ∃ vs, SqL K H a vs ∧ RepVs K H ds vs := by
  obtain ⟨_, b, vs, e, q, p⟩ := l.rep rs r
  cases e
  exact ⟨vs, q, p⟩
theorem src_enum {a : Addr} {d : D} {ds : List D} (rs0 : RepS K S0 H0) (r0 : RepV K H0 d (.ref a)) : Src K RepW H0 S0 (Ite K a) (ds.zipIdx.map fun (p : D × Nat) => D.tup [.int (p.2 : Int), p.1]) (fun S => ListD S d ds) := by
  have hlen : (ds.zipIdx.map fun (p : D × Nat) => D.tup [.int (p.2 : Int), p.1]).length = ds.length := by simp
  refine ⟨fun i H S hi e rs l => ?_, fun H S e rs l => ?_, fun i H S x H' hi e rs l y => ?_⟩
  · obtain ⟨vs, q, p⟩ := sqL_of_listD rs l (RepV.mono (e.tx rs0) _ _ r0)
    exact walk_enum.goes i H (by have := p.length; omega) q
  · obtain ⟨vs, q, p⟩ := sqL_of_listD rs l (RepV.mono (e.tx rs0) _ _ r0)
    rw [hlen, ← p.length]
    exact walk_enum.stops H q
  · obtain ⟨vs, q, p⟩ := sqL_of_listD rs l (RepV.mono (e.tx rs0) _ _ r0)
    obtain ⟨U, x1, y1, rfl, n, rfl, h1, h2⟩ := walk_enum.yields i H x H' (by have := p.length; omega) q y
    obtain ⟨f, hf, rf⟩ := p.get' h2
    cases h1
    obtain ⟨a1, a2, a3⟩ := pair_new (d := .int (i : Int)) rs n (.i _) rf
    exact ⟨.tup [.int (i : Int), f], by simp [List.getElem?_zipIdx, hf], a1, a2, a3⟩
theorem zip_get {xs ys : List D} {i : Nat} {d e : D} (h1 : xs[i]? = some d) (h2 : ys[i]? = some e) : ((xs.zip ys).map fun (p : D × D) => D.tup [p.1, p.2])[i]? = some (.tup [d, e]) := by
  have q : (xs.zip ys)[i]? = some (d, e) := List.getElem?_zip_eq_some.mpr ⟨h1, h2⟩
  rw [List.getElem?_map, q]
  rfl
theorem src_zipL {a b : Addr} {d e : D} {xs ys : List D} (rs0 : RepS K S0 H0) (r0 : RepV K H0 d (.ref a)) (r0' : RepV K H0 e (.ref b)) : Src K RepW H0 S0 (Itz K a b) ((xs.zip ys).map fun (p : D × D) => D.tup [p.1, p.2]) (fun S => ListD S d xs ∧ ListD S e ys) := by
  have hlen : ((xs.zip ys).map fun (p : D × D) => D.tup [p.1, p.2]).length = min xs.length ys.length := by simp
  refine ⟨fun i H S hi x rs l => ?_, fun H S x rs l => ?_, fun i H S v H' hi x rs l y => ?_⟩
  · obtain ⟨vs, q, p⟩ := sqL_of_listD rs l.1 (RepV.mono (x.tx rs0) _ _ r0)
    obtain ⟨ws, q2, p2⟩ := sqL_of_listD rs l.2 (RepV.mono (x.tx rs0) _ _ r0')
    exact (walk_zip rfl).goes i H (by have := p.length; have := p2.length; omega) ⟨q, q2⟩
  · obtain ⟨vs, q, p⟩ := sqL_of_listD rs l.1 (RepV.mono (x.tx rs0) _ _ r0)
    obtain ⟨ws, q2, p2⟩ := sqL_of_listD rs l.2 (RepV.mono (x.tx rs0) _ _ r0')
    rw [hlen, ← p.length, ← p2.length]
    exact (walk_zip rfl).stops H ⟨q, q2⟩
  · obtain ⟨vs, q, p⟩ := sqL_of_listD rs l.1 (RepV.mono (x.tx rs0) _ _ r0)
    obtain ⟨ws, q2, p2⟩ := sqL_of_listD rs l.2 (RepV.mono (x.tx rs0) _ _ r0')
    obtain ⟨U, x1, y1, rfl, n, rfl, h1, h2⟩ := (walk_zip rfl).yields i H v H' (by have := p.length; have := p2.length; omega) ⟨q, q2⟩ y
    obtain ⟨f, hf, rf⟩ := p.get' h1
    obtain ⟨g, hg, rg⟩ := p2.get' h2
    obtain ⟨a1, a2, a3⟩ := pair_new rs n rf rg
    exact ⟨.tup [f, g], zip_get hf hg, a1, a2, a3⟩
theorem src_zipT {a b : Addr} {xs ys : List D} {vs ws : List V} (rs0 : RepS K S0 H0) (h1 : SqT K H0 a vs) (h2 : SqT K H0 b ws) (r1 : RepVs K H0 xs vs) (r2 : RepVs K H0 ys ws) : Src K RepW H0 S0 (ItzT K a b) ((xs.zip ys).map fun (p : D × D) => D.tup [p.1, p.2]) (fun _ => True) := by
  have hlen : ((xs.zip ys).map fun (p : D × D) => D.tup [p.1, p.2]).length = min xs.length ys.length := by simp
  have l1 := r1.length
  have l2 := r2.length
  refine ⟨fun i H S hi x rs l => ?_, fun H S x rs l => ?_, fun i H S v H' hi x rs l y => ?_⟩
  · have i1 : i < vs.length := by omega
    have i2 : i < ws.length := by omega
    exact ⟨vs, ws, vs[i], ws[i], (x.tx rs0).sqT h1, (x.tx rs0).sqT h2, by simp [i1], by simp [i2]⟩
  · rw [hlen]
    exact ⟨vs, ws, (x.tx rs0).sqT h1, (x.tx rs0).sqT h2, by omega⟩
  · obtain ⟨U, x1, y1, rfl, n, rfl, f1, f2⟩ := y
    have g1 := f1 vs ((x.tx rs0).sqT h1)
    have g2 := f2 ws ((x.tx rs0).sqT h2)
    obtain ⟨f, hf, rf⟩ := r1.get' g1
    obtain ⟨g, hg, rg⟩ := r2.get' g2
    obtain ⟨a1, a2, a3⟩ := pair_new rs n (RepV.mono (x.tx rs0) _ _ rf) (RepV.mono (x.tx rs0) _ _ rg)
    exact ⟨.tup [f, g], zip_get hf hg, a1, a2, a3⟩

def iSeq (K : PySem.W.Frag) (tl : TE) : TI := fun σ H R => tl σ H fun x H1 => ∃ a, x = .ref a ∧ (((∃ xs, SqL K H1 a xs) ∧ R (Itl K a) H1) ∨ ((∃ xs, SqT K H1 a xs) ∧ R (Itt K a) H1))
theorem pi_seq {l tg : Expr} {tl : TE} (hl : PE X l tl) : PI X tg l (iSeq X.K tl) := by
  refine ⟨fun pins s σ H R I h => ?_⟩
  refine thn (hl.run pins s σ H _ I h) fun v s1 ⟨x, H1, I1, r1, q1⟩ => ?_
  obtain ⟨a, e, q⟩ := q1
  subst e
  cases r1
  have fp : ∀ b ∈ [s1.heap.objs.size], FpOk X pins H1 b := fun b hb => by
    have e : b = s1.heap.objs.size := by simpa using hb
    subst e
    exact I1.fpOk (Nat.le_refl _) (I1.hok.fresh (Nat.le_refl _))
  rcases q with ⟨⟨xs, hq⟩, q⟩ | ⟨⟨xs, hq⟩, q⟩
  · obtain ⟨its, rv, p, hz⟩ := I1.list hq
    exact wpAny_pyIter_list p.isList ⟨s1.heap.objs.size, [s1.heap.objs.size], _, _, H1, rfl, I1.kept (t' := s1.toks) fun b o e => Heap.get?_push_of_some _ e, turn_list a _, ⟨_, Heap.get?_push_size _ rfl, rfl, rfl⟩, fp, q⟩
  · obtain ⟨its, rv, p, hz⟩ := I1.tuple hq
    exact wpAny_pyIter_tuple (show s1.heap.IsTuple a its.toArray from p) ⟨s1.heap.objs.size, [s1.heap.objs.size], _, _, H1, rfl, I1.kept (t' := s1.toks) fun b o e => Heap.get?_push_of_some _ e, turn_tuple a _, ⟨_, Heap.get?_push_size _ rfl, rfl, rfl⟩, fp, q⟩
variable {wa wb : Rho → Sto → QE → Prop} {wes : Rho → Sto → (List D → Sto → Prop) → Prop} {x y tg : Expr} {xs : List Expr} {pos p : Pos}
theorem i_val (h : PE X x (rdE X.K wa)) : PI X tg x (rdI X.K RepV fun ρ S Q => wa ρ S fun d S1 => match d with
    | .tup xs => Q xs (fun _ => True) S1
    | .cl xs => Q xs (fun _ => True) S1
    | .ref a => ∃ xs, S1 a = some (.lst xs) ∧ Q xs (fun S2 => S2 a = some (.lst xs)) S1
    | _ => False) := by
  refine PI.imp (pi_seq h) fun σ H R ⟨ρ, S, Q, e, rs, hw, post⟩ => ?_
  refine rdE_bind e rs hw fun d S1 v H1 hq x1 r1 rs1 => ?_
  cases d with
  | tup ys =>
    obtain ⟨z, a, vs, rfl, q, pp⟩ := rv_tup r1
    exact ⟨a, rfl, .inr ⟨⟨vs, q⟩, post _ _ _ _ _ hq x1 rs1 (src_tup rs1 q pp) z⟩⟩
  | cl ys =>
    obtain ⟨z, a, vs, rfl, q, pp⟩ := rv_cl r1
    exact ⟨a, rfl, .inl ⟨⟨vs, q.sq⟩, post _ _ _ _ _ hq x1 rs1 (src_fz rs1 q pp) z⟩⟩
  | ref a =>
    obtain ⟨ys, hs, hq⟩ := hq
    obtain ⟨z, vs, hH, pp⟩ := rs1.lst hs
    exact ⟨a, rv_ref r1, .inl ⟨⟨vs, SqL.of hH⟩, post _ _ _ _ _ hq x1 rs1 src_lst z⟩⟩
  | _ => exact hq.elim
theorem i_rng1 {n : Nat} (hn : n = 1) (hg : Gl X "range") (hm : X.mg "range" = none) (hs : notStar x = true) (ha : PA X [x] (rdA X.K n wes)) : PI X tg (.Call (.Name "range" p) [x] [] pos) (rdI X.K RepV fun ρ S Q => wes ρ S fun ds S1 => match ds with
    | [.int j] => j ≤ szL ∧ -(2 ^ 62) ≤ j ∧ Q ((List.range j.toNat).map fun (i : Nat) => D.int (i : Int)) (fun _ => True) S1
    | [.int i, .int j] => (-(2 ^ 62) ≤ i ∧ i < 2 ^ 62 ∧ -(2 ^ 62) ≤ j ∧ j < 2 ^ 62) ∧ j - i ≤ szL ∧ Q ((List.range (j - i).toNat).map fun (k : Nat) => D.int (i + (k : Int))) (fun _ => True) S1
    | _ => False) := by
  subst hn
  refine PI.imp (pi_range1 hg hm ha (starEach_cons hs)) fun σ H R ⟨ρ, S, Q, e, rs, hw, post⟩ => ?_
  refine ⟨ρ, S, _, e, rs, hw, fun ds S1 vs H1 hn hq x1 r1 rs1 => ?_⟩
  have hsz : szL = 16777216 := rfl
  split at hq
  · rename_i j
    obtain ⟨v, rfl, r⟩ := rv1 r1
    obtain ⟨h1, h2, hq⟩ := hq
    refine ⟨j, by rw [rv_int r], h2, by omega, post _ _ _ _ _ hq x1 rs1 ?_ (by simp; omega)⟩
    have := src_range (K := X.K) (H0 := H1) (S0 := S1) (lo := 0) (n := j.toNat)
    simpa using this
  · simp at hn
  · exact hq.elim
theorem i_rng2 {n : Nat} (hn : n = 2) (hg : Gl X "range") (hm : X.mg "range" = none) (hs : notStar x = true) (hs2 : notStar y = true) (ha : PA X [x, y] (rdA X.K n wes)) : PI X tg (.Call (.Name "range" p) [x, y] [] pos) (rdI X.K RepV fun ρ S Q => wes ρ S fun ds S1 => match ds with
    | [.int j] => j ≤ szL ∧ -(2 ^ 62) ≤ j ∧ Q ((List.range j.toNat).map fun (i : Nat) => D.int (i : Int)) (fun _ => True) S1
    | [.int i, .int j] => (-(2 ^ 62) ≤ i ∧ i < 2 ^ 62 ∧ -(2 ^ 62) ≤ j ∧ j < 2 ^ 62) ∧ j - i ≤ szL ∧ Q ((List.range (j - i).toNat).map fun (k : Nat) => D.int (i + (k : Int))) (fun _ => True) S1
    | _ => False) := by
  subst hn
  have e2 : starEach [y] X.env = [(false, eval y X.env)] := starEach_cons hs2
  have e1 : starEach [x, y] X.env = [(false, eval x X.env), (false, eval y X.env)] := by rw [starEach_cons hs, e2]
  refine PI.imp (pi_range2 hg hm ha e1 e2) fun σ H R ⟨ρ, S, Q, e, rs, hw, post⟩ => ?_
  refine ⟨ρ, S, _, e, rs, hw, fun ds S1 vs H1 hn hq x1 r1 rs1 => ?_⟩
  have hsz : szL = 16777216 := rfl
  split at hq
  · simp at hn
  · rename_i i j
    obtain ⟨v, w, rfl, r, r'⟩ := rv2 r1
    obtain ⟨h1, h2, hq⟩ := hq
    exact ⟨i, j, by rw [rv_int r, rv_int r'], h1, post _ _ _ _ _ hq x1 rs1 src_range (by simp; omega)⟩
  · exact hq.elim
theorem i_enm {es : List Expr} {k : Nat} {tp : Pos} (hg : Gl X "enumerate") (hm : X.mg "enumerate" = none) (hs : notStar x = true) (h : PE X x (rdE X.K wa)) : PI X (.Tuple es k tp) (.Call (.Name "enumerate" p) [x] [] pos) (rdI X.K RepW fun ρ S Q => wa ρ S fun d S1 => ∃ xs, ListD S1 d xs ∧ Q (xs.zipIdx.map fun (p : D × Nat) => D.tup [.int (p.2 : Int), p.1]) (fun S2 => ListD S2 d xs) S1) := by
  have hsz : szL = 16777216 := rfl
  refine PI.imp (pi_enum hg hm (a_cons hs h a_nil) (starEach_cons hs)) fun σ H R ⟨ρ, S, Q, e, rs, hw, post⟩ => ?_
  refine ⟨ρ, S, fun ds S1 => match ds with
    | [d] => ∃ xs, ListD S1 d xs ∧ Q (xs.zipIdx.map fun (p : D × Nat) => D.tup [.int (p.2 : Int), p.1]) (fun S2 => ListD S2 d xs) S1
    | _ => False, e, rs, hw, fun ds S1 vs H1 _ hq x1 r1 rs1 => ?_⟩
  match ds, hq with
  | [d], hq =>
    obtain ⟨xs, l, hq⟩ := hq
    obtain ⟨v, rfl, r⟩ := rv1 r1
    obtain ⟨z, a, ws, rfl, q, _⟩ := l.rep rs1 r
    exact ⟨a, ws, rfl, q, post _ _ _ _ _ hq x1 rs1 (src_enum rs1 r) (by simpa using z)⟩
theorem i_zip {es : List Expr} {k : Nat} {tp : Pos} (hg : Gl X "zip") (hm : X.mg "zip" = none) (hs : notStar x = true) (hs2 : notStar y = true) (h : PE X x (rdE X.K wa)) (h2 : PE X y (rdE X.K wb)) : PI X (.Tuple es k tp) (.Call (.Name "zip" p) [x, y] [] pos) (rdI X.K RepW fun ρ S Q => wa ρ S fun d S1 => wb ρ S1 fun u S2 => match d, u with
    | .tup xs, .tup ys => Q ((xs.zip ys).map fun (p : D × D) => D.tup [p.1, p.2]) (fun _ => True) S2
    | x, y => ∃ xs ys, ListD S2 x xs ∧ ListD S2 y ys ∧ Q ((xs.zip ys).map fun (p : D × D) => D.tup [p.1, p.2]) (fun S3 => ListD S3 x xs ∧ ListD S3 y ys) S2) := by
  have e2 : starEach [y] X.env = [(false, eval y X.env)] := starEach_cons hs2
  have hl : ∀ (xs ys : List D), xs.length ≤ szL → ((xs.zip ys).map fun (p : D × D) => D.tup [p.1, p.2]).length ≤ szL := fun xs ys h => by simp; omega
  refine PI.imp (pi_zipA hg hm (a_cons hs h (a_cons hs2 h2 a_nil)) (starEach_cons hs) (by rw [e2]; rfl)) fun σ H R ⟨ρ, S, Q, e, rs, hw, post⟩ => ?_
  refine ⟨ρ, S, fun ds S2 => match ds with
    | [d, u] => (match d, u with
      | .tup xs, .tup ys => Q ((xs.zip ys).map fun (p : D × D) => D.tup [p.1, p.2]) (fun _ => True) S2
      | x, y => ∃ xs ys, ListD S2 x xs ∧ ListD S2 y ys ∧ Q ((xs.zip ys).map fun (p : D × D) => D.tup [p.1, p.2]) (fun S3 => ListD S3 x xs ∧ ListD S3 y ys) S2)
    | _ => False, e, rs, hw, fun ds S1 vs H1 _ hq x1 r1 rs1 => ?_⟩
  have gen : ∀ d u v w, RepV X.K H1 d v → RepV X.K H1 u w → (∃ xs ys, ListD S1 d xs ∧ ListD S1 u ys ∧ Q ((xs.zip ys).map fun (p : D × D) => D.tup [p.1, p.2]) (fun S3 => ListD S3 d xs ∧ ListD S3 u ys) S1) →
      ∃ a b xs ys, [v, w] = [.ref a, .ref b] ∧ ((SqL X.K H1 a xs ∧ SqL X.K H1 b ys ∧ R (Itz X.K a b) H1) ∨ (SqT X.K H1 a xs ∧ SqT X.K H1 b ys ∧ R (ItzT X.K a b) H1)) := by
    rintro d u v w r r' ⟨xs, ys, l, l', hq⟩
    obtain ⟨z, a, vs', e1, q, _⟩ := l.rep rs1 r
    obtain ⟨z', b, ws', e2', q', _⟩ := l'.rep rs1 r'
    subst e1 e2'
    exact ⟨a, b, vs', ws', rfl, .inl ⟨q, q', post _ _ _ _ _ hq x1 rs1 (src_zipL rs1 r r') (hl _ _ z)⟩⟩
  match ds, hq with
  | [d, u], hq =>
    obtain ⟨v, w, rfl, r, r'⟩ := rv2 r1
    cases d <;> cases u <;> first | exact gen _ _ _ _ r r' hq | skip
    obtain ⟨z, a, vs', rfl, q, p⟩ := rv_tup r
    obtain ⟨z', b, ws', rfl, q', p'⟩ := rv_tup r'
    exact ⟨a, b, vs', ws', rfl, .inr ⟨q, q', post _ _ _ _ _ hq x1 rs1 (src_zipT rs1 q q' p p') (hl _ _ z)⟩⟩

theorem wipe_rep {H : Hp} {ρ : Rho} {σ : L2.St} (h : RepE X.K H ρ σ) : ∀ vs : List Nat, RepE X.K H (wipeD ρ vs) (wipe σ vs)
  | [] => h
  | v :: vs => by unfold wipeD wipe; exact (wipe_rep h vs).unset v
theorem e_lc {W : PySem.W.Frag → Hp → D → V → Prop} {elt iter : Expr} {ifs : List Expr} {scope : Scope} {own : List (Str × Nat)} {sl : List Nat} {wi : Rho → Sto → (List D → (Sto → Prop) → Sto → Prop) → Prop} {t : D → Rho → Sto → (Rho → Prop) → Prop}
    {wt : Rho → Sto → (Bool → Sto → Prop) → Prop} {we : Rho → Sto → QE → Prop}
    (hc : X.calm = true) (hN : X.N.Nodup) (hi : PI X tg iter (rdI X.K W wi)) (ok : BlkOk X.N X.env.scope scope own) (hsl : ∀ i ∈ sl, i ∈ own.map (·.2))
    (hg : ∀ (s : Shared) (H : Hp) (C : Addr) (cl : List (Str × Addr)) (fp : List Addr), PG (X.blk s H scope (compEnvC scope cl C X.env) fp) tg (rdG X.K sl W t))
    (ht : ∀ (s : Shared) (H : Hp) (C : Addr) (cl : List (Str × Addr)) (fp : List Addr), PTs (X.blk s H scope (compEnvC scope cl C X.env) fp) ifs (rdT X.K wt))
    (he : ∀ (s : Shared) (H : Hp) (C : Addr) (cl : List (Str × Addr)) (fp : List Addr), PE (X.blk s H scope (compEnvC scope cl C X.env) fp) elt (rdE X.K we)) (hs : ∀ x, foldedSetIterable iter X.env x = pure x) :
    ∀ σ H R, rdE X.K (fun ρ S Q => wi ρ S fun xs live S1 => lcRun live (fun x S2 N => t x (wipeD ρ (own.map (·.2))) S2 fun ρ2 => wt ρ2 S2 fun k S3 => match k with
        | true => we ρ2 S3 fun y S4 => N (some y) S4
        | false => N none S3) xs [] S1 fun ys S2 => ∀ p, S2 p = none → Q (.ref p) (sup S2 p (.lst ys))) σ H R →
      tLc (rdI X.K W wi) (rdG X.K sl W t) (rdT X.K wt) (rdE X.K we) (own.map (·.2)) σ H R := by
  intro σ H R ⟨ρ, S, Q, e, rs, hw, post⟩
  refine ⟨ρ, S, _, e, rs, hw, fun xs live S1 H1 J hq x1 rs1 src hlen => ?_⟩
  intro Dd hD
  have hD0 : S1 Dd = none := rs1.none_of hD
  refine ⟨fun i m H2 => m = xs.length - i ∧ i ≤ xs.length ∧ ∃ (S2 : Sto) (acc : List D) (vs : List V), H2 Dd = some (.lst vs) ∧ S2 Dd = none ∧ RepVs X.K H2 acc vs ∧ acc.length ≤ i ∧ RepS X.K S2 H2 ∧ Ext H1 S1 H2 S2 ∧
      lcRun live (fun x S2 N => t x (wipeD ρ (own.map (·.2))) S2 fun ρ2 => wt ρ2 S2 fun k S3 => match k with
        | true => we ρ2 S3 fun y S4 => N (some y) S4
        | false => N none S3) (xs.drop i) acc S2 fun ys S2 => ∀ p, S2 p = none → Q (.ref p) (sup S2 p (.lst ys)), ⟨xs.length, by simp, Nat.zero_le _, S1, [], [], upd_same, hD0, .nil, Nat.zero_le _, rs1.new hD, Ext.new hD, hq⟩, ?_⟩
  rintro i m H2 ⟨rfl, hi, S2, acc, vs, hH, hS, racc, hacc, rs2, x2, run⟩
  by_cases hlt : i < xs.length
  · have hx : xs.drop i = xs[i] :: xs.drop (i + 1) := List.drop_eq_getElem_cons hlt
    rw [hx] at run
    obtain ⟨lv, step⟩ := run
    refine .inr ⟨src.goes i H2 S2 hlt x2 rs2 lv, fun H3 => i + 1 ≤ xs.length ∧ ∃ (S3 : Sto) (acc : List D) (vs : List V), H3 Dd = some (.lst vs) ∧ S3 Dd = none ∧ RepVs X.K H3 acc vs ∧ acc.length ≤ i + 1 ∧ RepS X.K S3 H3 ∧ Ext H1 S1 H3 S3 ∧
      lcRun live (fun x S2 N => t x (wipeD ρ (own.map (·.2))) S2 fun ρ2 => wt ρ2 S2 fun k S3 => match k with
        | true => we ρ2 S3 fun y S4 => N (some y) S4
        | false => N none S3) (xs.drop (i + 1)) acc S3 fun ys S2 => ∀ p, S2 p = none → Q (.ref p) (sup S2 p (.lst ys)), fun H3 hN => ⟨xs.length - (i + 1), by omega, rfl, hN⟩, fun x H3 hy => ?_⟩
    obtain ⟨d, hd, x3, rs3, rd⟩ := src.yields i H2 S2 x H3 hlt x2 rs2 lv hy
    rw [List.getElem?_eq_getElem hlt] at hd
    cases hd
    have x13 := x2.trans x3
    have eρ : RepE X.K H3 (wipeD ρ (own.map (·.2))) (wipe σ (own.map (·.2))) := wipe_rep (e.mono ((x1.trans x13).tx rs)) _
    have hH3 : H3 Dd = some (.lst vs) := (x3.keep Dd _ hH hS).1
    refine ⟨xs[i], _, S2, _, rd, eρ, rs3, step, fun ρ' σ' hq e' out => ⟨?_, ?_⟩⟩
    · have := out (own.map (·.2)) hsl
      rw [this]
      apply List.ext_getElem?
      intro j
      have q1 := wipe_get (wipe σ (own.map (·.2))) j (own.map (·.2))
      have q2 := wipe_get σ j (own.map (·.2))
      rw [wipe_length] at q1
      rw [q1]
      by_cases hj : j ∈ own.map (·.2) ∧ j < σ.length
      · rw [if_pos hj, q2, if_pos hj]
      · rw [if_neg hj]
    · refine ⟨ρ', S2, _, e', rs3, hq, fun k S4 H4 hq4 x4 rs4 => ?_⟩
      have hH4 : H4 Dd = some (.lst vs) := (x4.keep Dd _ hH3 hS).1
      have hS4 : S4 Dd = none := (x4.keep Dd _ hH3 hS).2
      cases k with
      | true =>
        refine iteT ?_
        refine ⟨ρ', S4, _, e'.mono (x4.tx rs3), rs4, hq4, fun y S5 v H5 hq5 x5 r5 rs5 => ?_⟩
        have hH5 : H5 Dd = some (.lst vs) := (x5.keep Dd _ hH4 hS4).1
        have hS5 : S5 Dd = none := (x5.keep Dd _ hH4 hS4).2
        have x25 := (x3.trans x4).trans x5
        have tx5 : TX H5 (upd H5 Dd (.lst (vs ++ [v]))) := ⟨fun a zs q => by rw [upd_ne fun z => by subst z; rw [hH5] at q; cases q]; exact q, fun a o u q => by rw [upd_ne fun z => by subst z; rw [hH5] at q; cases q]; exact q⟩
        refine ⟨vs, hH5, by rw [racc.length, szL_eq]; omega, hlt, S5, acc ++ [y], vs ++ [v], upd_same, hS5, ?_, by simp; omega, ?_, ?_, hq5⟩
        · exact RepVs.mono tx5 _ _ ((RepVs.mono (x25.tx rs2) _ _ racc).append (.cons r5 .nil))
        · intro a c' hc'
          have ha : a ≠ Dd := sto_ne hc' hS5
          exact (rs5 a c' hc').mono tx5 (upd_ne ha)
        · refine ⟨fun a o q ns => ?_⟩
          obtain ⟨q1, n1⟩ := (x2.trans x25).keep a o q ns
          have ha : a ≠ Dd := fun z => by subst z; rw [hD] at q; cases q
          exact ⟨by rw [upd_ne ha]; exact q1, n1⟩
      | false =>
        refine iteF ?_
        exact ⟨hlt, S4, acc, vs, hH4, hS4, RepVs.mono ((x3.trans x4).tx rs2) _ _ racc, by omega, rs4, x13.trans x4, hq4⟩
  · have ei : i = xs.length := by omega
    subst ei
    rw [List.drop_length] at run
    obtain ⟨lv, fin⟩ := run
    refine .inl ⟨src.stops H2 S2 x2 rs2 lv, ?_⟩
    refine post (.ref Dd) _ (.ref Dd) H2 (fin Dd hS) ?_ (.r _) ?_
    · refine ⟨fun a o q ns => ?_⟩
      obtain ⟨q1, n1⟩ := (x1.trans x2).keep a o q ns
      have ha : a ≠ Dd := fun z => by
        subst z
        have := (x1.keep _ _ q ns).1
        rw [hD] at this; cases this
      exact ⟨q1, by rw [sup_ne ha]; exact n1⟩
    · intro a c' hc'
      by_cases ha : a = Dd
      · subst ha
        rw [sup_same] at hc'
        cases hc'
        exact ⟨by omega, vs, hH, racc⟩
      · rw [sup_ne ha] at hc'
        exact rs2 a c' hc'
end
end G


namespace GT
open PySem PySem.Spec PyProof.Rows L2

/-- the masks -/
def Msk (m : Nat) : Prop := m = 7 ∨ m = 31 ∨ m = 127 ∨ m = 511
def nx (x : Nat) : Nat := (x * 5 + 1) % 512
def it (x : Nat) : Nat → Nat
  | 0 => x
  | k + 1 => it (nx x) k
theorem it_succ (x : Nat) : ∀ k, it x (k + 1) = nx (it x k)
  | 0 => rfl
  | k + 1 => it_succ (nx x) k
theorem it_lcg : ∀ k, it 0 k = lcgN 511 k
  | 0 => rfl
  | k + 1 => by rw [it_succ, it_lcg k]; rfl
/-- the slots met, as bits -/
def met : Nat → Nat → Nat → Nat
  | 0, _, acc => acc
  | k + 1, x, acc => met k (nx x) (acc ||| 1 <<< x)
theorem met_bit (j : Nat) : ∀ (k x acc : Nat), (met k x acc).testBit j = true → acc.testBit j = true ∨ ∃ i, i < k ∧ it x i = j
  | 0, _, _, h => .inl h
  | k + 1, x, acc, h => by
    rcases met_bit j k (nx x) _ h with h | ⟨i, hi, e⟩
    · rw [Nat.testBit_or, Bool.or_eq_true] at h
      rcases h with h | h
      · exact .inl h
      · refine .inr ⟨0, Nat.succ_pos _, ?_⟩
        rw [Nat.one_shiftLeft, Nat.testBit_two_pow] at h
        exact of_decide_eq_true h
    · exact .inr ⟨i + 1, Nat.succ_lt_succ hi, e⟩
theorem met_all : met 512 0 0 = 2 ^ 512 - 1 := by decide +kernel
theorem full511 {j : Nat} (hj : j ≤ 511) : ∃ b, b ≤ 511 ∧ lcgN 511 b = j := by
  have h : (met 512 0 0).testBit j = true := by
    rw [met_all, Nat.testBit_two_pow_sub_one]
    exact decide_eq_true (by omega)
  rcases met_bit j 512 0 0 h with h | ⟨i, hi, e⟩
  · rw [Nat.zero_testBit] at h; cases h
  · exact ⟨i, by omega, by rw [← it_lcg]; exact e⟩
theorem msk_or {m : Nat} (h : Msk m) : MaskOk m ∨ m = 511 := by
  rcases h with e | e | e | e
  · exact .inl (.inl e)
  · exact .inl (.inr (.inl e))
  · exact .inl (.inr (.inr e))
  · exact .inr e
theorem full {m : Nat} (h : Msk m) {j : Nat} (hj : j ≤ m) : ∃ b, b ≤ m ∧ lcgN m b = j := by
  rcases msk_or h with h | h
  · exact lcg_all h hj
  · subst h; exact full511 hj
theorem round {m : Nat} (h : Msk m) : lcgN m (m + 1) = 0 := by
  rcases msk_or h with h | h
  · exact lcg_round h
  · subst h; rw [← it_lcg]; decide +kernel
theorem again {m : Nat} (h : Msk m) (k : Nat) : lcgN m (m + 1 + k) = lcgN m k := by
  induction k with
  | zero => exact round h
  | succ k ih =>
    have e : m + 1 + (k + 1) = (m + 1 + k) + 1 := by omega
    rw [e]
    show (lcgN m (m + 1 + k) * 5 + 1) % (m + 1) = _
    rw [ih]; rfl
theorem from_any {m : Nat} (h : Msk m) {i j : Nat} (hi : i ≤ m) (hj : j ≤ m) : ∃ k, k ≤ m ∧ lcgI m i k = j := by
  obtain ⟨a, ha, rfl⟩ := full h hi
  obtain ⟨b, hb, rfl⟩ := full h hj
  by_cases c : a ≤ b
  · exact ⟨b - a, by omega, by rw [lcgN_add, Nat.add_sub_cancel' c]⟩
  · refine ⟨m + 1 + b - a, by omega, ?_⟩
    rw [lcgN_add, Nat.add_sub_cancel' (by omega), again h]
theorem run_at {m : Nat} (hm : Msk m) (h : Int) {j : Nat} (hj : j ≤ m) : ∃ n, n ≤ m + 12 ∧ runI m (SetTable.bits h) n = j := by
  obtain ⟨k, hk, e⟩ := from_any hm (runI_le m (SetTable.bits h) 12) hj
  exact ⟨12 + k, by omega, (runI_tail (bits_lt h) k).trans e⟩
theorem way_at {m : Nat} (hm : Msk m) (h : Int) {j : Nat} (hj : j ≤ m) : ∃ k, k < 10 * SetTable.turns m ∧ way m h k = j := by
  obtain ⟨n, hn, e⟩ := run_at hm h hj
  obtain ⟨k, hk, e2⟩ := run_nth m (SetTable.bits h) n
  refine ⟨k, by unfold SetTable.turns; omega, ?_⟩
  show (nth m (runAt m (SetTable.bits h % (m + 1)) (SetTable.bits h)) k).j = j
  rw [e2]; exact e
theorem way_in (m : Nat) (h : Int) (k : Nat) : way m h k ≤ m := by
  have hi : SetTable.bits h % (m + 1) ≤ m := Nat.le_of_lt_succ (Nat.mod_lt _ (Nat.succ_pos _))
  have r := runEnd_bd hi
  have q := nth_in k (runAt m (SetTable.bits h % (m + 1)) (SetTable.bits h)) (m := m) (by
    have e : (runAt m (SetTable.bits h % (m + 1)) (SetTable.bits h)).j + (runAt m (SetTable.bits h % (m + 1)) (SetTable.bits h)).more = SetTable.bits h % (m + 1) + (SetTable.runEnd m (SetTable.bits h % (m + 1)) - SetTable.bits h % (m + 1)) := rfl
    omega)
  exact Nat.le_trans (Nat.le_add_right _ _) q
/-- the first free slot on the way -/
theorem first_free {m : Nat} (hm : Msk m) (h : Int) (l : List Nat) (hl : l.length ≤ m) : ∃ K, K < 10 * SetTable.turns m ∧ way m h K ∉ l ∧ ∀ k, k < K → way m h k ∈ l := by
  obtain ⟨j, hj, nj⟩ := st_missing l (m + 1) (Nat.lt_succ_of_le hl)
  obtain ⟨k, hk, e⟩ := way_at hm h (Nat.le_of_lt_succ hj)
  obtain ⟨K, a1, a2, a3⟩ := st_least (p := fun k => way m h k ∉ l) k (by rw [e]; exact nj)
  exact ⟨K, Nat.lt_of_le_of_lt a1 hk, a2, fun k' hk' => Decidable.of_not_not (a3 k' hk')⟩
/-- n items have their slots -/
structure Sit (m n : Nat) (owner : Array (Option Nat)) : Prop where
  sz : owner.size = m + 1
  lt : ∀ j k, j ≤ m → oAt owner j = some k → k < n
  all : ∀ k, k < n → ∃ j, j ≤ m ∧ oAt owner j = some k
  ps : ∃ ps : List Nat, ps.length = n ∧ ∀ j, j ≤ m → oAt owner j ≠ none → j ∈ ps
theorem Sit.one {m n : Nat} (hm : Msk m) {owner : Array (Option Nat)} (W : Sit m n owner) (hn : n ≤ m) (h : Int) :
    ∃ j, SetTable.layClean.free m owner (SetTable.turns m) (SetTable.bits h % (m + 1)) (SetTable.bits h) = some j ∧ Sit m (n + 1) (owner.setIfInBounds j (some n)) := by
  obtain ⟨ps, l1, l2⟩ := W.ps
  obtain ⟨j0, b0, n0⟩ := st_missing ps (m + 1) (by omega)
  have f0 : oAt owner j0 = none := by
    cases q : oAt owner j0 with
    | none => rfl
    | some k => exact absurd (l2 j0 (by omega) (by rw [q]; nofun)) n0
  obtain ⟨r, hr, e⟩ := run_at hm h (Nat.le_of_lt_succ b0)
  have hw : way m h (off m (SetTable.bits h % (m + 1)) (SetTable.bits h) r) = j0 := by
    show (nth m (runAt m (SetTable.bits h % (m + 1)) (SetTable.bits h)) (off m (SetTable.bits h % (m + 1)) (SetTable.bits h) r)).j = j0
    rw [nth_off, itL_run]; exact e
  obtain ⟨K, k1, k2, k3⟩ := st_least (p := fun k => oAt owner (way m h k) = none) (off m (SetTable.bits h % (m + 1)) (SetTable.bits h) r) (by rw [hw]; exact f0)
  have hf : SetTable.layClean.free m owner (SetTable.turns m) (SetTable.bits h % (m + 1)) (SetTable.bits h) = some (way m h K) := by
    refine free_spec m owner (SetTable.turns m) r _ _ K (by unfold SetTable.turns; omega) k1 (fun k hk => ?_) ?_
    · have q := k3 k hk
      cases z : oAt owner (nth m (runAt m (SetTable.bits h % (m + 1)) (SetTable.bits h)) k).j with
      | none => exact absurd z q
      | some _ => rfl
    · rw [show oAt owner (nth m (runAt m (SetTable.bits h % (m + 1)) (SetTable.bits h)) K).j = none from k2]; rfl
  have hj : way m h K < owner.size := by rw [W.sz]; exact Nat.lt_succ_of_le (way_in m h K)
  have self := oAt_set_self (some n) hj
  refine ⟨_, hf, by rw [Array.size_setIfInBounds]; exact W.sz, fun j k hjm e => ?_, fun k hk => ?_, way m h K :: ps, by rw [List.length_cons, l1], fun j hjm e => ?_⟩
  · by_cases c : j = way m h K
    · rw [c, self] at e; cases e; exact Nat.lt_succ_self _
    · rw [oAt_set_ne _ c] at e; exact Nat.lt_succ_of_lt (W.lt j k hjm e)
  · by_cases c : k < n
    · obtain ⟨j, hjm, e⟩ := W.all k c
      refine ⟨j, hjm, ?_⟩
      rw [oAt_set_ne _ fun z => by rw [z, k2] at e; cases e]
      exact e
    · have : k = n := by omega
      subst this
      exact ⟨_, way_in m h K, self⟩
  · by_cases c : j = way m h K
    · rw [c]; exact List.mem_cons_self
    · rw [oAt_set_ne _ c] at e; exact List.mem_cons_of_mem _ (l2 j hjm e)
theorem Sit.fold {m : Nat} (hm : Msk m) : ∀ (hs : List Int) (n : Nat) (owner : Array (Option Nat)), Sit m n owner → n + hs.length ≤ m →
    ∃ o2, hs.foldl (stepF m) (some (owner, n)) = some (o2, n + hs.length) ∧ Sit m (n + hs.length) o2
  | [], n, owner, W, _ => ⟨owner, rfl, W⟩
  | h :: hs, n, owner, W, hl => by
    rw [List.length_cons] at hl
    obtain ⟨j, e, W2⟩ := W.one hm (by omega) h
    obtain ⟨o2, f, W3⟩ := Sit.fold hm hs (n + 1) _ W2 (by omega)
    have en : n + (h :: hs).length = n + 1 + hs.length := by rw [List.length_cons]; omega
    rw [en]
    refine ⟨o2, ?_, W3⟩
    rw [List.foldl_cons, stepF_some e]; exact f
theorem sit_clean {m : Nat} (hm : Msk m) (hs : Array Int) (hn : hs.size ≤ m) : ∃ o2, SetTable.layClean m hs = some o2 ∧ Sit m hs.size o2 := by
  have W0 : Sit m 0 (Array.replicate (m + 1) none) := ⟨by simp, fun j k hj e => (by rw [oAt_init hj] at e; cases e), fun k hk => absurd hk (Nat.not_lt_zero _), [], rfl, fun j hj e => absurd (oAt_init hj) e⟩
  obtain ⟨o2, f, W⟩ := Sit.fold hm hs.toList 0 _ W0 (by rw [Array.length_toList]; omega)
  rw [Nat.zero_add, Array.length_toList] at f W
  exact ⟨o2, by rw [layClean_eq, f]; rfl, W⟩
/-- the new table -/
theorem relaid_any (t : SetTable) (hs : Array Int) {wanted M : Nat} (hw : SetTable.sizeAbove wanted - 1 = M) (hM : Msk M) (hn : hs.size ≤ M) :
    ∃ t' order, t.relaid hs wanted = some (t', order) ∧ order.toList.Perm (List.range hs.size) ∧ Ris t'.place.toList ∧ t'.place.size = hs.size ∧ (∀ x ∈ t'.place.toList, x ≤ M) ∧ t'.mask = M ∧ t'.led = t.led ∧ t'.plain = t.plain ∧ t'.dummies = #[] := by
  obtain ⟨o2, e, W⟩ := sit_clean hM hs hn
  have hr : t.relaid hs wanted = some (tabOf t M o2, ((liveOf M o2).map (·.2)).toArray) := by rw [relaid_eq, hw, e]; rfl
  have ris := ris_live (fun j => o2.getD j none) (List.range (M + 1)) (by unfold Ris; first | exact List.pairwise_lt_range | exact List.pairwise_lt_range _)
  have r1 : Ris ((liveOf M o2).map (·.1)) := ris.1
  have r2 : ∀ x ∈ (liveOf M o2).map (·.1), x ∈ List.range (M + 1) := ris.2
  have hlen : (liveOf M o2).length = hs.size := by
    obtain ⟨ps, p1, p2⟩ := W.ps
    have nd : ((liveOf M o2).map (·.1)).Nodup := List.Pairwise.imp (fun h => Nat.ne_of_lt h) r1
    have u1 := nat_nodup_len ((liveOf M o2).map (·.1)) ps nd fun x hx => by
      obtain ⟨⟨y, k⟩, hq, rfl⟩ := List.mem_map.mp hx
      obtain ⟨b1, b2⟩ := (mem_live W.sz).1 hq
      exact p2 y b1 (by rw [b2]; nofun)
    have u2 := nat_nodup_len (List.range hs.size) ((liveOf M o2).map (·.2)) List.nodup_range fun k hk => by
      obtain ⟨j, b1, b2⟩ := W.all k (List.mem_range.mp hk)
      exact List.mem_map.mpr ⟨(j, k), (mem_live W.sz).2 ⟨b1, b2⟩, rfl⟩
    rw [List.length_map, p1] at u1
    rw [List.length_map, List.length_range] at u2
    omega
  refine ⟨_, _, hr, ?_, r1, ?_, fun x hx => Nat.le_of_lt_succ (List.mem_range.mp (r2 x hx)), rfl, rfl, rfl, rfl⟩
  · refine perm_range hs.size _ (by rw [List.length_map]; exact hlen) fun k hk => ?_
    obtain ⟨j, b1, b2⟩ := W.all k hk
    exact List.mem_map.mpr ⟨(j, k), (mem_live W.sz).2 ⟨b1, b2⟩, rfl⟩
  · show ((liveOf M o2).map (·.1)).toArray.size = hs.size
    rw [List.size_toArray, List.length_map]; exact hlen
end GT


namespace GT
open PySem PySem.Spec PyProof.Rows L2

structure WS (P : Program) (w : World) (h : Heap) (a : Addr) (L : List (Addr × List Int)) (es : Array (Int × Value)) (ep : Nat) (t : SetTable) : Prop where
  ob : ∃ o, h.get? a = some o ∧ o.ExactSet ∧ o.data = .set es ep t
  rows : es.toList = rowsOf P w L
  ris : Ris t.place.toList
  dm : t.dummies = #[]
  sz : t.place.size = L.length
  msk : Msk t.mask
  tup : ∀ p ∈ L, IsT P w h p.2 p.1
  pl : t.plain = true
  ld : w.params.followText "set-order" = true ∨ t.led = true
  room : L.length * 5 < t.mask * 3
  few : L.length ≤ 300
theorem msk_odd {m : Nat} (h : Msk m) : m % 2 = 1 ∧ m ≤ 511 := by
  rcases h with e | e | e | e <;> subst e <;> decide
section
variable {P : Program} {w : World} {A : Around} {E : Value → Shared → Prop} {s : Shared} {a : Addr} {L : List (Addr × List Int)} {es : Array (Int × Value)} {ep : Nat} {t : SetTable}
theorem WS.size (R : WS P w s.heap a L es ep t) : es.size = L.length := by
  rw [← Array.length_toList, R.rows]
  unfold rowsOf
  rw [List.length_map]
theorem WS.fit (R : WS P w s.heap a L es ep t) : t.fits es.size = true := by
  have h1 := R.sz
  have h2 := R.size
  have h3 := R.room
  unfold SetTable.fits SetTable.fill
  simp only [R.dm, Bool.and_eq_true, beq_iff_eq, decide_eq_true_eq]
  constructor
  · omega
  · show t.place.size + 0 ≤ t.mask
    omega
theorem WS.ent (R : WS P w s.heap a L es ep t) {i : Nat} {p : Addr × List Int} (h : L[i]? = some p) : es[i]? = some (thash P w p.2, Value.ref p.1) := by
  have q : es.toList[i]? = some (thash P w p.2, Value.ref p.1) := by
    rw [R.rows]
    unfold rowsOf
    rw [List.getElem?_map, h]; rfl
  rw [Array.getElem?_toList] at q
  exact q
theorem WS.gave (R : WS P w s.heap a L es ep t) : ¬ t.gaveWay = true := by
  have := (msk_odd R.msk).1
  unfold SetTable.gaveWay
  simp [this]
theorem nth_dummy (m : Nat) : ∀ (n : Nat) (p : SetTable.Probe), p.dummy = none → (nth m p n).dummy = none
  | 0, _, h => h
  | n + 1, p, h => nth_dummy m n (adv m p) (by unfold adv; split <;> exact h)
theorem find_free (R : WS P w s.heap a L es ep t) {x : Addr} {k : List Int} (hx : IsT P w s.heap k x) (hu : A.units < cLine) {K : Nat} {Q : SetFound → Shared → Prop} (k1 : K < 10 * SetTable.turns t.mask) (k2 : way t.mask (thash P w k) K ∉ t.place.toList)
    (k3 : ∀ c, c < K → way t.mask (thash P w k) c ∈ t.place.toList) (qt : Q (.there none) s) (qf : Q (.free (way t.mask (thash P w k) K) false) s) :
    ∀ (f c : Nat) (st : Option SetTable.Probe), c ≤ K → K - c < f → st.getD (t.probeStart (thash P w k)) = nth t.mask (runAt t.mask (SetTable.bits (thash P w k) % (t.mask + 1)) (SetTable.bits (thash P w k))) c →
      wpAny (model P w) A (setSearchFrom a (.ref x) (thash P w k) true f st) Q E s := by
  obtain ⟨o, ho, hex, hd⟩ := R.ob
  intro f
  induction f with
  | zero => intro c st _ h; exact absurd h (Nat.not_lt_zero _)
  | succ f ih =>
    intro c st hc hf hst
    generalize hB : runAt t.mask (SetTable.bits (thash P w k) % (t.mask + 1)) (SetTable.bits (thash P w k)) = B at *
    have far : ∀ q, nth t.mask (nth t.mask B c) q = nth t.mask B (c + q) := fun q => (nth_add t.mask c B q).symm
    have slot : ∀ q, (nth t.mask (nth t.mask B c) q).j = way t.mask (thash P w k) (c + q) := fun q => by
      rw [far]; show _ = (nth t.mask (runAt t.mask _ _) (c + q)).j; rw [hB]
    have hB0 : B.dummy = none := by rw [← hB]; rfl
    rw [setSearchFrom_succ]
    refine wpAny_bind (wpAny_setState_of ho hd R.fit ?_)
    dsimp only
    refine wp_if_neg R.gave ?_
    try refine wpAny_bind (wpAny_pure ?_)
    rcases go_spec t R.ris R.dm (fun i => (es[i]?.map (·.1)).getD 0) (thash P w k) (10 * SetTable.turns t.mask) (K - c) (nth t.mask B c) (nth_dummy _ c B hB0) (by omega)
      (fun q hq => by rw [slot]; exact k3 _ (by omega)) (by rw [slot, Nat.add_sub_cancel' hc]; exact k2) with ⟨q, i, hq, hi, _, _, pr⟩ | ⟨_, pr⟩
    · have pr2 : t.probe (fun i => (es[i]?.map (·.1)).getD 0) (thash P w k) (st.getD (t.probeStart (thash P w k))) = some (.candidate (way t.mask (thash P w k) (c + q)) i (nth t.mask B (c + (q + 1)))) := by
        rw [hst, ← slot, ← far]; exact pr
      rw [pr2]
      dsimp only
      rw [slot] at hi
      have hil : i < L.length := by
        have := (List.getElem?_eq_some_iff.mp hi).1
        rw [Array.length_toList, R.sz] at this
        exact this
      have hp : L[i]? = some L[i] := List.getElem?_eq_getElem hil
      generalize L[i] = p at hp
      have pt := R.tup p (List.mem_of_getElem? hp)
      have tail : wpAny (model P w) A (searchRest a (.ref x) (thash P w k) true f es t (way t.mask (thash P w k) (c + q)) i (nth t.mask B (c + (q + 1)))) Q E s := by
        unfold searchRest
        simp only [R.ent hp]
        refine wpAny_bind (wpAny_holding (wpAny_eqBool_tuple hu pt hx (wpAny_bind (wpAny_setState_of ho hd R.fit ?_))))
        dsimp only
        by_cases e : p.2 = k
        · exact wp_if_pos (by simp [e]) (wpAny_pure qt)
        · refine wp_if_neg (by simp [e]) ?_
          try refine wpAny_bind (wpAny_pure ?_)
          have sl : t.slot (way t.mask (thash P w k) (c + q)) = .live i := slot_live R.ris hi
          rw [sameMem]
          simp only [if_true, sl, R.ent hp]
          refine wpAny_bind (wpAny_isSame_ref_self (wpAny_bind (wpAny_pure ?_)))
          simp only [if_true]
          exact wp_if_neg (by simp [e]) (ih (c + (q + 1)) _ (by omega) (by omega) rfl)
      cases hl : t.led with
      | true =>
        refine wp_if_neg (by decide) ?_
        try refine wpAny_bind (wpAny_pure ?_)
        exact tail
      | false =>
        refine wp_if_pos (by decide) (wpAny_bind (seen_tup hx (fun y hy => ?_) ?_))
        · obtain ⟨e, he, ey⟩ := List.mem_map.mp hy
          have h1 : e ∈ es.toList := by
            have h2 : e ∈ es ∧ e.1 = thash P w k := by simpa using he
            simpa using h2.1
          rw [R.rows] at h1
          obtain ⟨p2, hp2, e2⟩ := List.mem_map.mp h1
          exact ⟨p2.2, p2.1, by rw [← ey, ← e2], R.tup p2 hp2⟩
        · refine wp_if_neg (by decide) ?_
          try refine wpAny_bind (wpAny_pure ?_)
          exact tail
    · have pr2 : t.probe (fun i => (es[i]?.map (·.1)).getD 0) (thash P w k) (st.getD (t.probeStart (thash P w k))) = some (.empty (way t.mask (thash P w k) K) none) := by
        rw [slot, Nat.add_sub_cancel' hc] at pr
        rw [hst]; exact pr
      rw [pr2]
      dsimp only
      exact wpAny_pure qf
end
end GT


namespace GT
open PySem PySem.Spec PyProof.Rows L2

theorem sz_5 : SetTable.sizeAbove (SetTable.grown 5) = 32 := by decide +kernel
theorem sz_19 : SetTable.sizeAbove (SetTable.grown 19) = 128 := by decide +kernel
theorem sz_77 : SetTable.sizeAbove (SetTable.grown 77) = 512 := by decide +kernel
section
variable {P : Program} {w : World} {A : Around} {E : Value → Shared → Prop} {s : Shared} {a : Addr} {L : List (Addr × List Int)} {es : Array (Int × Value)} {ep : Nat} {t : SetTable}
theorem relay_any {o : Obj} {wanted M : Nat} {Q : Unit → Shared → Prop} (ho : s.heap.get? a = some o) (hex : o.ExactSet) (hd : o.data = .set es ep t) (rows : es.toList = rowsOf P w L) (sz : t.place.size = es.size) (dm : t.dummies = #[]) (le : es.size ≤ t.mask)
    (tup : ∀ p ∈ L, IsT P w s.heap p.2 p.1) (pl : t.plain = true) (ld : w.params.followText "set-order" = true ∨ t.led = true) (few : L.length ≤ 300) (hw : SetTable.sizeAbove wanted - 1 = M) (hM : Msk M) (h512 : SetTable.sizeAbove wanted ≤ 512) (room : L.length * 5 < M * 3)
    (q : ∀ h' L' es' ep' t', Heap.SameBut a s.heap h' → WS P w h' a L' es' ep' t' → L'.Perm L → Q () { s with heap := h' }) : wpAny (model P w) A (setRelay a wanted) Q E s := by
  have hn : es.size = L.length := by
    rw [← Array.length_toList, rows]
    unfold rowsOf
    rw [List.length_map]
  have fit : t.fits es.size = true := by
    unfold SetTable.fits SetTable.fill
    simp only [dm, Bool.and_eq_true, beq_iff_eq, decide_eq_true_eq]
    constructor
    · exact sz
    · show t.place.size + 0 ≤ t.mask
      omega
  obtain ⟨t', order, e, pm, r1, r2, r3, r4, r5, r6, r7⟩ := relaid_any t (es.map (·.1)) (wanted := wanted) hw hM (by rw [Array.size_map, hn]; omega)
  rw [Array.size_map, hn] at pm r2
  obtain ⟨L2, q1, q2, _⟩ := order_rows L es order rows pm
  have hsz2 : (order.filterMap (es[·]?)).size = es.size := by
    rw [← Array.length_toList, q1]
    unfold rowsOf
    rw [List.length_map, q2.length_eq, hn]
  rw [setRelay_eq]
  refine wpAny_bind (wpAny_setState_of ho hd fit ?_)
  dsimp only
  refine wp_if_neg (by rw [sizeLine_eq]; omega) ?_
  try refine wpAny_bind (wpAny_pure ?_)
  rw [e]
  dsimp only
  refine wpAny_bind (wp_if_neg (by rw [hsz2]; simp) ?_)
  try refine wpAny_bind (wpAny_pure ?_)
  refine wpAny_pure ?_
  dsimp only
  refine wpAny_storeSet_of ho hd ?_ (by rw [hsz2, hn, sizeLine_eq]; omega)
  have sb : Heap.SameBut a s.heap (s.heap.update a (Obj.putSet (order.filterMap (es[·]?)) t')) := Heap.SameBut.update ..
  exact q _ L2 _ (ep + 1) t' sb ⟨⟨_, store_at ho hd, ⟨hex.1, hex.2.1, hex.2.2⟩, rfl⟩, q1, r1, r7, by rw [r2, q2.length_eq], by rw [r4]; exact hM, fun p hp => isT_same (tup p (q2.mem_iff.mp hp)) ho hd sb, by rw [r6]; exact pl, by rw [r5]; exact ld, by rw [q2.length_eq, r4]; exact room, by rw [q2.length_eq]; exact few⟩ q2
theorem put_any (R : WS P w s.heap a L es ep t) {x : Addr} {k : List Int} (hx : IsT P w s.heap k x) (hu : A.units < cLine) (few : L.length < 300) {Q : Bool → Shared → Prop}
    (q : ∀ b h' L' es' ep' t', Heap.SameBut a s.heap h' → WS P w h' a L' es' ep' t' → L'.length ≤ L.length + 1 → (∀ p ∈ L', p = (x, k) ∨ p ∈ L) → Q b { s with heap := h' }) : wpAny (model P w) A (setAddHashed a (.ref x) (thash P w k)) Q E s := by
  obtain ⟨o, ho, hex, hd⟩ := R.ob
  have hn := R.size
  have hroom := R.room
  have hm := (msk_odd R.msk).2
  obtain ⟨K, k1, k2, k3⟩ := first_free R.msk (thash P w k) t.place.toList (by rw [Array.length_toList, R.sz]; omega)
  have big : K < 99999 := by
    have : 10 * SetTable.turns t.mask ≤ 5260 := by unfold SetTable.turns; omega
    omega
  unfold setAddHashed
  refine wpAny_holding ?_
  rw [show (100000 : Nat) = 99999 + 1 from rfl, setAddHashedIn_succ]
  refine wpAny_bind (wpAny_setState_of ho hd R.fit ?_)
  dsimp only
  refine wp_if_neg (by simp [byScan, Value.scannable]) ?_
  try refine wpAny_bind (wpAny_pure ?_)
  unfold setSearch
  refine wpAny_bind (find_free R hx hu k1 k2 k3 ?_ ?_ 100000 0 none (Nat.zero_le _) (by omega) rfl)
  · dsimp only
    exact wpAny_pure (q false s.heap L es ep t (Heap.SameBut.refl a s.heap) R (Nat.le_succ _) fun p hp => .inr hp)
  · dsimp only
    refine wpAny_bind (wpAny_setState_of ho hd R.fit ?_)
    dsimp only
    generalize hj : way t.mask (thash P w k) K = j at *
    obtain ⟨c1, _, _⟩ := below_cut R.ris j
    have hbl : SetTable.below t.place j ≤ t.place.toList.length := by rw [Array.length_toList]; exact c1
    have np : t.place[SetTable.below t.place j]? ≠ some j := fun e => k2 (List.mem_of_getElem? (by rw [Array.getElem?_toList]; exact e))
    have t1ris : Ris (t.put j).1.place.toList := ris_insert R.ris np
    have t1dm : (t.put j).1.dummies = #[] := put_dm R.dm j
    have t1sz : (t.put j).1.place.size = L.length + 1 := by
      rw [← Array.length_toList, put_place t j, len_ins _ hbl, Array.length_toList, R.sz]
    have t1mask : (t.put j).1.mask = t.mask := rfl
    have t1led : (t.put j).1.led = t.led := rfl
    have t1pl : (t.put j).1.plain = true := R.pl
    have t1p : (t.put j).2 = SetTable.below t.place j := rfl
    have t1fill : (t.put j).1.fill = L.length + 1 := by
      show (t.put j).1.place.size + (t.put j).1.dummies.size = _
      rw [t1sz, t1dm]; rfl
    generalize t.put j = pt at *
    obtain ⟨t1, b0⟩ := pt
    dsimp only at t1ris t1dm t1sz t1mask t1led t1pl t1p t1fill ⊢
    subst t1p
    first
      | (refine wpAny_bind (wp_if_pos t1pl (hashBy_tup hx ?_)))
      | refine wp_if_pos t1pl (wpAny_bind (hashBy_tup hx ?_))
    simp only [if_true]
    generalize hb0 : SetTable.below t.place j = b1 at *
    have rows1 : (SetTable.insertAt es b1 (thash P w k, Value.ref x)).toList = rowsOf P w (L.take b1 ++ (x, k) :: L.drop b1) := by
      rw [SetTable.toList_insertAt, rows_put, R.rows]
    have pm := put_perm L b1 (x, k)
    generalize L.take b1 ++ (x, k) :: L.drop b1 = L1 at pm rows1
    have hl1 : L1.length = L.length + 1 := pm.length_eq
    have sz1 : (SetTable.insertAt es b1 (thash P w k, Value.ref x)).size = L.length + 1 := by
      rw [← Array.length_toList, rows1]
      unfold rowsOf
      rw [List.length_map, hl1]
    generalize SetTable.insertAt es b1 (thash P w k, Value.ref x) = es1 at rows1 sz1 ⊢
    refine wpAny_bind (wpAny_storeSet_of ho hd ?_ (by rw [sz1, sizeLine_eq]; omega))
    have sb : Heap.SameBut a s.heap (s.heap.update a (Obj.putSet es1 t1)) := Heap.SameBut.update ..
    have ho1 := store_at (es' := es1) (t' := t1) ho hd
    generalize s.heap.update a (Obj.putSet es1 t1) = h1 at sb ho1 ⊢
    have tup1 : ∀ p ∈ L1, IsT P w h1 p.2 p.1 := fun p hp => by
      rcases List.mem_cons.mp (pm.mem_iff.mp hp) with e | hp
      · rw [e]; exact isT_same hx ho hd sb
      · exact isT_same (R.tup p hp) ho hd sb
    have ld1 : w.params.followText "set-order" = true ∨ t1.led = true := by rw [t1led]; exact R.ld
    have mem1 : ∀ p ∈ L1, p = (x, k) ∨ p ∈ L := fun p hp => List.mem_cons.mp (pm.mem_iff.mp hp)
    by_cases hf : t1.tooFull = true
    · have hfull : (L.length + 1) * 5 ≥ t.mask * 3 := by
        have h := hf
        unfold SetTable.tooFull at h
        rw [decide_eq_true_eq, t1fill, t1mask] at h
        exact h
      have three : L.length + 1 = 5 ∨ L.length + 1 = 19 ∨ L.length + 1 = 77 := by
        rcases R.msk with e | e | e | e <;> rw [e] at hfull hroom <;> omega
      have go : ∀ M, SetTable.sizeAbove (SetTable.grown (L.length + 1)) - 1 = M → Msk M → SetTable.sizeAbove (SetTable.grown (L.length + 1)) ≤ 512 → (L.length + 1) * 5 < M * 3 →
          wpAny (model P w) A (setRelay a (SetTable.grown (L.length + 1))) (fun _ s' => wpAny (model P w) A (pure true) Q E s') E { s with heap := h1 } := fun M m1 m2 m3 m4 => by
        refine relay_any (s := { s with heap := h1 }) (L := L1) ho1 ⟨hex.1, hex.2.1, hex.2.2⟩ rfl rows1 (by rw [t1sz, sz1]) t1dm (by rw [sz1, t1mask]; omega) tup1 t1pl ld1 (by omega) m1 m2 m3 (by rw [hl1]; exact m4) fun h2 L2 es2 ep2 t2 sb2 R2 pm2 => ?_
        exact wpAny_pure (q true h2 L2 es2 ep2 t2 (sb.trans sb2) R2 (by rw [pm2.length_eq, hl1]; omega) fun p hp => mem1 p (pm2.mem_iff.mp hp))
      rw [hn]
      first
        | (refine wpAny_bind ?_; refine wp_if_pos (by simp [hf]) ?_)
        | (refine wp_if_pos (by simp [hf]) ?_; refine wpAny_bind ?_)
      rcases three with e | e | e
      · exact go 31 (by rw [e, sz_5]) (.inr (.inl rfl)) (by rw [e, sz_5]; decide) (by omega)
      · exact go 127 (by rw [e, sz_19]) (.inr (.inr (.inl rfl))) (by rw [e, sz_19]; decide) (by omega)
      · exact go 511 (by rw [e, sz_77]) (.inr (.inr (.inr rfl))) (by rw [e, sz_77]; decide) (by omega)
    · have h5 : (L.length + 1) * 5 < t.mask * 3 := by
        have h := hf
        unfold SetTable.tooFull at h
        rw [decide_eq_true_eq, t1fill, t1mask] at h
        omega
      first
        | refine wp_if_neg (by simp [hf]) ?_
        | (refine wpAny_bind ?_; refine wp_if_neg (by simp [hf]) ?_; refine wpAny_pure ?_)
      exact wpAny_pure (q true h1 L1 es1 (ep + 1) t1 sb ⟨⟨_, ho1, ⟨hex.1, hex.2.1, hex.2.2⟩, rfl⟩, rows1, t1ris, t1dm, by rw [t1sz, hl1], by rw [t1mask]; exact R.msk, tup1, t1pl, ld1, by rw [hl1, t1mask]; exact h5, by omega⟩ (by omega) mem1)
end
end GT


namespace GT
open PySem PySem.Spec PyProof.Rows L2

section
variable {P : Program} {w : World} {A : Around} {E : Value → Shared → Prop} {s : Shared}
theorem WS.keep {h h' : Heap} {a : Addr} {L : List (Addr × List Int)} {es : Array (Int × Value)} {ep : Nat} {t : SetTable} (R : WS P w h a L es ep t) (ha : ∀ o, h.get? a = some o → h'.get? a = some o) (ht : ∀ p ∈ L, IsT P w h' p.2 p.1) : WS P w h' a L es ep t :=
  let ⟨o, ho, r⟩ := R.ob
  ⟨⟨o, ha o ho, r⟩, R.rows, R.ris, R.dm, R.sz, R.msk, ht, R.pl, R.ld, R.room, R.few⟩
/-- what the set holds of the first i -/
def Has (P : Program) (w : World) (ks : List (Addr × List Int)) (S : Addr) (i : Nat) (h : Heap) : Prop := ∃ L es ep t, WS P w h S L es ep t ∧ L.length ≤ i ∧ ∀ p ∈ L, p ∈ ks
theorem Has.new {ks : List (Addr × List Int)} {h : Heap} {S : Addr} (ho : h.get? S = some { cls := .type "set", dict := none, data := .set #[] 0 (.fresh 0 0 (!w.params.followText "set-order")) }) : Has P w ks S 0 h := by
  have ld : w.params.followText "set-order" = true ∨ (!w.params.followText "set-order") = true := by
    cases w.params.followText "set-order"
    · exact .inr rfl
    · exact .inl rfl
  exact ⟨[], #[], 0, _, ⟨⟨_, ho, ⟨rfl, rfl, rfl⟩, rfl⟩, rfl, .nil, rfl, rfl, .inl rfl, nofun, rfl, ld, by show 0 * 5 < 7 * 3; decide, by show 0 ≤ 300; decide⟩, Nat.le_refl _, nofun⟩
/-- all of a walk put in -/
theorem put_walk {I S : Addr} {fp wr : List Addr} {G : Array GenState → Array GenState → Prop} {Pv : Nat → Value → Prop} {St : Nat → Shared → Prop} {R : Result → Shared → Prop} {ks : List (Addr × List Int)} {h0 : Heap}
    (W : WalksS P w A.in1 I fp wr G ks.length Pv St) (hSf : S ∉ fp) (few : ks.length ≤ 300) (hv : ∀ i v, Pv i v → ∃ p, ks[i]? = some p ∧ v = .ref p.1) (hk : ∀ p ∈ ks, IsT P w h0 p.2 p.1) (hS0 : h0.get? S = none) (hw0 : ∀ b ∈ wr, h0.get? b = none) (hu : A.in1.units < cLine) :
    ∀ (d i : Nat) (s : Shared), i + d = ks.length → St i s → (∀ b o, h0.get? b = some o → s.heap.get? b = some o) → Has P w ks S i s.heap →
      (∀ s', Moved (S :: wr) G s s' → Has P w ks S ks.length s'.heap → (∀ b o, h0.get? b = some o → s'.heap.get? b = some o) → R (.ok (.ret .none)) s') →
      codeAny (model P w) A (.builtin "set.update.loop" ⟨[.ref S, .ref I], []⟩) R s := by
  have hSw : S ∉ wr := fun z => hSf (W.sub _ z)
  have up : ∀ b ∈ wr, b ∈ S :: wr := fun b hb => List.mem_cons_of_mem _ hb
  have kept : ∀ {s s' : Shared}, Moved wr G s s' → (∀ b o, h0.get? b = some o → s.heap.get? b = some o) → ∀ b o, h0.get? b = some o → s'.heap.get? b = some o := fun m k b o e =>
    m.heap b o (fun z => by rw [hw0 b z] at e; cases e) (k b o e)
  have hold : ∀ {i : Nat} {s s' : Shared}, Moved wr G s s' → (∀ b o, h0.get? b = some o → s'.heap.get? b = some o) → Has P w ks S i s.heap → Has P w ks S i s'.heap := fun m k ⟨L, es, ep, t, r, l, sub⟩ =>
    ⟨L, es, ep, t, r.keep (fun o e => m.heap S o hSw e) fun p hp => isT_keep (hk p (sub p hp)) k, l, sub⟩
  intro d
  induction d with
  | zero =>
    intro i s hd hst k0 hs hR
    have hi : i = ks.length := by omega
    subst hi
    refine codeAny_builtin F.entry_set_update_loop ?_
    rw [Around.under_plainId F.plain_set_update_loop _]
    show wpAny _ A.in1 (pyNext (.ref I) >>= _) _ _ s
    refine wpAny_bind (W.done s _ _ hst fun s' m => ?_)
    have k1 := kept m k0
    exact wpAny_pure (hR s' (m.mono up) (hold m k1 hs) k1)
  | succ d ih =>
    intro i s hd hst k0 hs hR
    have hi : i < ks.length := by omega
    refine codeAny_builtin F.entry_set_update_loop ?_
    rw [Around.under_plainId F.plain_set_update_loop _]
    show wpAny _ A.in1 (pyNext (.ref I) >>= _) _ _ s
    refine wpAny_bind (W.item i s _ _ hi hst fun v s' pv hst' m => ?_)
    obtain ⟨p, hp, rfl⟩ := hv i v pv
    have k1 := kept m k0
    obtain ⟨L, es, ep, t, r, l, sub⟩ := hold m k1 hs
    have hx : IsT P w s'.heap p.2 p.1 := isT_keep (hk p (List.mem_of_getElem? hp)) k1
    show wpAny _ A.in1 (holding [Value.ref p.1] (setAdd S (.ref p.1)) >>= _) _ _ s'
    refine wpAny_bind (wpAny_holding ?_)
    unfold setAdd
    refine wpAny_holding (wpAny_bind (wpAny_pyHash_tuple hu hx ?_))
    refine put_any (s := { s' with toks := s'.toks + (p.2.length + 1) }) r hx hu (by omega) fun b h' L' es' ep' t' sb r2 l2 sub2 => ?_
    have k2 : ∀ b o, h0.get? b = some o → h'.get? b = some o := fun b o e => (sb.2 b (fun z => by rw [z, hS0] at e; cases e)).trans (k1 b o e)
    have has2 : Has P w ks S (i + 1) h' := ⟨L', es', ep', t', r2, by omega, fun y hy => (sub2 y hy).elim (fun z => by rw [z]; exact List.mem_of_getElem? hp) (sub y)⟩
    refine wpAny_pure ⟨plainId_quiet F.plain_set_update_loop _, ih (i + 1) _ (by omega) (W.frame _ s' _ _ hst' (Nat.le_add_right _ _) fun b hb o e => ?_) k2 has2 fun s2 m2 has3 k3 => ?_⟩
    · rw [sb.2 b (fun z : b = S => hSf (by rw [← z]; exact hb))]; exact e
    · refine hR s2 (Moved.trans W.gtrans ((m.mono up).then_heap (Nat.le_add_right _ _) fun b o hb e => ?_) m2) has3 k3
      rw [sb.2 b (fun z : b = S => hb (by rw [z]; exact List.mem_cons_self))]; exact e
/-- a new set's record -/
abbrev newSet (w : World) : Obj := { cls := .type "set", dict := none, data := .set #[] 0 (.fresh 0 0 (!w.params.followText "set-order")) }
theorem no_at {h : Heap} {b : Addr} (hb : h.objs.size ≤ b) : h.get? b = none := by
  cases q : h.get? b with
  | none => rfl
  | some o => exact absurd (Nat.lt_of_lt_of_le (Heap.lt_size q) hb) (Nat.lt_irrefl _)
/-- set(l), l a list of tuples of ints -/
theorem set_of {l : Addr} {its : Array Value} {ks : List (Addr × List Int)} {Q : Value → Shared → Prop} (hh : A.handled = none) (hl : s.heap.IsList l its) (hit : its.toList = ks.map fun p => Value.ref p.1) (hk : ∀ p ∈ ks, IsT P w s.heap p.2 p.1) (few : ks.length ≤ 300) (hu : A.units + 3 < cLine)
    (q : ∀ (h' : Heap) (tk : Nat), Has P w ks s.heap.objs.size ks.length h' → (∀ b o, s.heap.get? b = some o → h'.get? b = some o) → Q (.ref s.heap.objs.size) { s with heap := h', toks := tk }) : wpAny (model P w) A (call (.type "set") [.ref l]) Q E s := by
  have hn : its.size = ks.length := by rw [← Array.length_toList, hit, List.length_map]
  have hS0 : (s.heap.push (newSet w)).get? s.heap.objs.size = some (newSet w) := Heap.get?_push_size _ rfl
  obtain ⟨mc, mt, mro⟩ := F.called_set.mro
  have mk1 := F.called_set.made
  have mk2 := F.called_set.sub
  have mk3 := F.called_set.notType
  have mk4 := F.called_set.canCreate
  have mk5 := F.typeCall_set_1 (.ref l)
  refine wpAny_call (codeAny_of_tree (?_ : wpAny _ _ (callAny (.type "set") _) _ _ _))
  refine wpAny_pure ⟨Code.quiet_builtin _ (by decide +kernel), codeAny_builtin F.entry_type_call ?_⟩
  rw [Around.under_plain (weight_type_call_type "set" [.ref l] []) rfl]
  repeat (any_goals (first | assumption | wp_step))
  refine codeAny_mono (code_set_led1 (.ref l) (E := E) (Q₁ := fun ob s1 => ob = .ref s.heap.objs.size ∧ s1 = { s with heap := s.heap.push (newSet w) }) ⟨rfl, rfl⟩) fun r s1 hr => ?_
  cases r with
  | error e => exact hr
  | ok fl =>
    cases fl with
    | ret ob =>
      obtain ⟨rfl, rfl⟩ := hr
      have isSet : Shared.TypeIs { s with heap := s.heap.push (newSet w) } (.ref s.heap.objs.size) "set" := ⟨_, hS0, rfl⟩
      have in1 := F.called_set.init.lookup
      have in2 := F.called_set.init.bind (.ref s.heap.objs.size)
      repeat (any_goals (first | assumption | wp_step))
      refine codeAny_mono (codeAny_call_builtin (R := wants (fun r s2 => r = .none ∧ ∃ h' tk, s2 = { s with heap := h', toks := tk } ∧ Has P w ks s.heap.objs.size ks.length h' ∧ ∀ b o, s.heap.get? b = some o → h'.get? b = some o) E) F.called_set.init.plain F.entry_set_init (check_set_init_1 isSet ?_)) fun r2 s2 hr2 => ?_
      · have hl1 : (s.heap.push (newSet w)).IsList l its := hl.push _
        obtain ⟨⟨oc, od, odt, osl⟩, hol, hcl, nl, hdl⟩ := hl
        simp only at hcl hdl
        subst hcl hdl
        have hlS : l < s.heap.objs.size := Heap.lt_size hol
        have hol1 : (s.heap.push (newSet w)).get? l = some { cls := .type "list", dict := od, data := .seq its nl, slots := osl } := Heap.get?_push_of_some _ hol
        have sub1 := F.sub_list_set
        have sub2 := F.sub_list_frozenset
        have ne1 : (Value.type "list" == Value.type "dict") = false := by decide
        unfold Builtin.«set.__init__» noKeywords Builtin.Frozenset.updateFrom
        generalize hPI : pyIter = PI
        wp_walk
        subst hPI
        refine wpAny_pyIter_list hl1 (wpAny_bind (wpAny_runValue ?_))
        have hh3 : A.in1.in1.in1.handled = none := by simp [hh]
        have hI : (s.heap.push (newSet w)).objs.size = s.heap.objs.size + 1 := Heap.size_push ..
        have lI : l ≠ (s.heap.push (newSet w)).objs.size := by rw [hI]; exact Nat.ne_of_lt (Nat.lt_succ_of_lt hlS)
        have W := (Walks.list (prog := P) (w := w) hh3 _ l lI its).toS
        rw [hn] at W
        have hv : ∀ (i : Nat) (v : Value), its[i]? = some v → ∃ p, ks[i]? = some p ∧ v = .ref p.1 := fun i v hv => by
          rw [← Array.getElem?_toList, hit, List.getElem?_map] at hv
          cases e : ks[i]? with
          | none => rw [e] at hv; cases hv
          | some p => rw [e] at hv; cases hv; exact ⟨p, rfl, rfl⟩
        refine put_walk W (by rw [hI]; simp only [List.mem_cons, List.not_mem_nil, or_false, not_or]; exact ⟨Nat.ne_of_lt (Nat.lt_succ_self _), Nat.ne_of_gt hlS⟩) few hv hk (no_at (Nat.le_refl _)) (fun b hb => no_at (by rw [List.mem_singleton.mp hb, hI]; exact Nat.le_succ _)) hu ks.length 0 _ (Nat.zero_add _)
          ⟨⟨_, Heap.get?_push_size _ rfl, rfl, rfl⟩, hl1.push _⟩ (fun b o e => Heap.get?_push_of_some _ (Heap.get?_push_of_some _ e)) (Has.new (Heap.get?_push_of_some _ hS0)) fun s3 m has k => ?_
        obtain ⟨h3, g3, d3, t3, o3⟩ := s3
        have e1 : g3 = s.gens := m.gens
        have e2 : d3 = s.drawn := m.drawn
        have e3 : o3 = s.os := m.os
        subst e1 e2 e3
        show wpAny _ _ _ _ _ _
        refine wpAny_pure ?_
        show wpAny _ _ (ret Value.none) _ _ _
        exact wpAny_pure ⟨rfl, h3, t3, rfl, has, k⟩
      · cases r2 with
        | error e => exact hr2
        | ok f2 =>
          cases f2 with
          | ret v2 =>
            obtain ⟨rfl, h3, t3, rfl, has, k⟩ := hr2
            repeat (any_goals (first | assumption | wp_step))
            exact q h3 t3 has k
          | _ => exact hr2.elim
    | _ => exact hr.elim
end
end GT


namespace GT
open PySem PySem.Spec PyProof.Rows L2

section
variable {P : Program} {w : World} {A : Around} {E : Value → Shared → Prop} {s : Shared}
theorem reads_ints {h : Heap} {k : List Int} {vs : List Value} (x : ItemsAre (intKind P w) k vs) : ReadsAll h vs (k.map PyData.int) [] := by
  induction x with
  | nil => exact .nil
  | @cons k0 v ks vs h1 _ ih =>
    obtain ⟨t, rfl⟩ := Value.isInt_shape h1
    exact ReadsAll.cons (as := []) (bs := []) (.int k0 t) ih
theorem reads_isT {h : Heap} {k : List Int} {b : Addr} (x : IsT P w h k b) : Reads h (.ref b) (.tuple (k.map PyData.int)) [] := by
  obtain ⟨o, its, n, h1, h2, h3, h4⟩ := x
  exact .tuple h1 h2 h3 (reads_ints h4)
def enc (q : Addr × List Int) : PyData := .tuple (q.2.map PyData.int)
theorem each_refs (L : List (Addr × List Int)) : PySem.W.EachIs (fun v (q : Addr × List Int) => v = Value.ref q.1) (L.map fun q => Value.ref q.1) L := by
  induction L with
  | nil => exact .nil
  | cons q L ih => exact .cons rfl ih
theorem of_each {out : List Value} {L : List (Addr × List Int)} (e : PySem.W.EachIs (fun v (q : Addr × List Int) => v = Value.ref q.1) out L) : out = L.map fun q => Value.ref q.1 := by
  induction e with
  | nil => rfl
  | cons h _ ih => rw [List.map_cons, h, ih]
theorem rows_among (L : List (Addr × List Int)) : ∀ vs : List Value, (∀ v ∈ vs, v ∈ L.map fun q => Value.ref q.1) → ∃ L1 : List (Addr × List Int), vs = L1.map (fun q => Value.ref q.1) ∧ ∀ q ∈ L1, q ∈ L
  | [], _ => ⟨[], rfl, nofun⟩
  | v :: vs, h => by
    obtain ⟨q, hq, rfl⟩ := List.mem_map.mp (h v List.mem_cons_self)
    obtain ⟨L1, e1, h1⟩ := rows_among L vs fun u hu => h u (List.mem_cons_of_mem _ hu)
    refine ⟨q :: L1, by rw [e1]; rfl, fun r hr => ?_⟩
    rcases List.mem_cons.mp hr with z | z
    · rw [z]; exact hq
    · exact h1 r z
theorem dataDepth (k : List Int) : (PyData.tuple (k.map PyData.int)).depth = 1 := by
  have : ∀ ns : List Int, PyData.depthAll (ns.map PyData.int) = 0 := fun ns => by
    induction ns with
    | nil => rfl
    | cons _ r ih => simp [PyData.depthAll, PyData.depth, ih]
  unfold PyData.depth
  rw [this]
theorem sorted_of {a : Addr} {ks : List (Addr × List Int)} {Q : Value → Shared → Prop} (has : Has P w ks a ks.length s.heap) (hh : A.handled = none) (few : ks.length ≤ 300) (ne : ∀ p ∈ ks, p.2 ≠ []) (hu : A.units + 10 < cLine)
    (q : ∀ (s' : Shared) (p : Addr) (out : Array Value) (c : Nat) (L : List (Addr × List Int)), (∀ b o, s.heap.get? b = some o → s'.heap.get? b = some o) → s'.gens = s.gens → s'.os = s.os → s.heap.objs.size ≤ p → s'.heap.get? p = some (seqObj "list" out c) →
      out.toList = L.map (fun z => Value.ref z.1) → L.length ≤ ks.length → (∀ z ∈ L, z ∈ ks) → Q (.ref p) s') : wpAny (model P w) A (call (.builtin "sorted") [.ref a]) Q E s := by
  obtain ⟨L, es, ep, t, R, hlen, sub⟩ := has
  obtain ⟨o, ho, hex, hd⟩ := R.ob
  have hsz := R.size
  refine Calls.call_function_entry kind_sorted plain_sorted entry_sorted (args_sorted1 _) ?_
  unfold Builtin.«sorted»
  refine wpAny_bind (m := checkCount "sorted" 1 1 _) (wpAny_pure (wpAny_bind (collect_set (A := A.in1) hh ⟨o, ho, hex.1, hd⟩ R.fit (by unfold scanBound; omega) R.ris R.ld fun s1 vs k1 z1 g1 o1 pm => ?_)))
  have er : es.toList.map (·.2) = L.map fun z => Value.ref z.1 := by
    rw [R.rows]
    unfold rowsOf
    rw [List.map_map]; rfl
  rw [er] at pm
  obtain ⟨L1, rfl, sub1⟩ := rows_among L vs fun v hv => pm.mem_iff.mp hv
  have hl1 : L1.length = L.length := by
    have := pm.length_eq
    rw [List.length_map, List.length_map] at this
    exact this
  refine wpAny_bind (wpAny_newList ?_ (by rw [List.length_map, sizeLine_eq]; omega))
  have hN : (s1.heap.push (seqObj "list" (L1.map fun z => Value.ref z.1).toArray 0)).get? s1.heap.objs.size = some (seqObj "list" (L1.map fun z => Value.ref z.1).toArray 0) := Heap.get?_push_size _ rfl
  have rd : ∀ z ∈ L1, Reads (s1.heap.push (seqObj "list" (L1.map fun z => Value.ref z.1).toArray 0)) (.ref z.1) (enc z) [] := fun z hz => reads_isT (P := P) (w := w) (isT_keep (R.tup z (sub1 z hz)) fun b u e => Heap.get?_push_of_some _ (k1 b u e))
  have eachR : ∀ M : List (Addr × List Int), (∀ z ∈ M, z ∈ L1) → PySem.W.EachIs (fun v b => ∃ as, Reads (s1.heap.push (seqObj "list" (L1.map fun z => Value.ref z.1).toArray 0)) v (enc b) as ∧ s1.heap.objs.size ∉ as) (M.map fun z => Value.ref z.1) M := by
    intro M
    induction M with
    | nil => intro _; exact .nil
    | cons z M ih => intro hM; exact .cons ⟨[], rd z (hM z List.mem_cons_self), by simp⟩ (ih fun y hy => hM y (List.mem_cons_of_mem _ hy))
  refine wpAny_bind (wpAny_holding (PySem.W.list_sort_data (s := { s1 with heap := s1.heap.push (seqObj "list" (L1.map fun z => Value.ref z.1).toArray 0) }) (enc := enc) hN (each_refs L1) (eachR L1 fun _ h => h) (PySem.W.AllAlike.of fun b b' => ?_) (.inl fun d hd => ?_) (by rw [sizeLine_eq]; omega) (fun b _ => ?_) fun out ol eo => ?_))
  · show PySem.W.alike (.tuple _) (.tuple _) = true
    rw [PySem.W.alike]
    exact PySem.W.alike_ints _ _
  · obtain ⟨z, hz, rfl⟩ := List.mem_map.mp hd
    have nz := ne z (sub z (sub1 z hz))
    unfold enc
    cases e : z.2 with
    | nil => exact absurd e nz
    | cons i r => exact ⟨_, _, rfl⟩
  · have e : (enc b).depth = 1 := dataDepth b.2
    have h1 : A.in1.units ≤ A.units + 1 := by simp [Around.in1]
    rw [e]; omega
  · have eo2 := of_each eo
    obtain ⟨c, hc⟩ := sortedHeap_at (vs := L1.map fun z => Value.ref z.1) (out := out.toArray) hN
    have pmS := List.mergeSort_perm L1 (PySem.W.dataLe false enc)
    refine wpAny_pure ⟨_, rfl, q _ s1.heap.objs.size out.toArray c (L1.mergeSort (PySem.W.dataLe false enc)) (fun b u e => ?_) g1 o1 z1 hc eo2 (by rw [pmS.length_eq]; omega) fun z hz => sub z (sub1 z (pmS.mem_iff.mp hz))⟩
    have e2 := k1 b u e
    have lt := Heap.lt_size e2
    show (sortedHeap (s1.heap.push (seqObj "list" (L1.map fun z => Value.ref z.1).toArray 0)) s1.heap.objs.size (L1.map fun z => Value.ref z.1) out.toArray).get? b = some u
    rw [sortedHeap_old (Nat.ne_of_lt lt) (by rw [size_push']; exact Nat.lt_succ_of_lt lt)]
    exact Heap.get?_push_of_some _ e2
end
end GT


namespace G
open PySem PySem.Spec PyProof.Rows L2 RZ

theorem sp_isin {sc : Scope} {t : TyN} {x : Expr} {as : List Expr} (h : spIsin sc t x = some as) : ∃ a p p2 pos, as = [a] ∧ x = .Call (.Name "isinstance" p) [a, .Name t.nm p2] [] pos ∧ gloB sc "isinstance" = true ∧ gloB sc t.nm = true := by
  unfold spIsin at h
  split at h <;> first | (cases h; done) | skip
  split at h <;> first | (cases h; done) | skip
  rename_i q
  cases h
  simp only [Bool.and_eq_true, decide_eq_true_eq] at q
  obtain ⟨⟨⟨rfl, rfl⟩, h1⟩, h2⟩ := q
  exact ⟨_, _, _, _, rfl, rfl, h1, h2⟩
theorem sp_two {sc : Scope} {f g : Str} {x : Expr} {as : List Expr} (h : spTwo sc f g x = some as) : ∃ p p2 q pos, x = .Call (.Name f p) [.Call (.Name g p2) as [] q] [] pos ∧ gloB sc f = true ∧ gloB sc g = true := by
  unfold spTwo at h
  split at h <;> first | (cases h; done) | skip
  split at h <;> first | (cases h; done) | skip
  rename_i q
  cases h
  simp only [Bool.and_eq_true, decide_eq_true_eq] at q
  obtain ⟨⟨⟨rfl, rfl⟩, h1⟩, h2⟩ := q
  exact ⟨_, _, _, _, rfl, h1, h2⟩
theorem sp_1 {o : Option (List Expr)} {as : List Expr} (h : (match o with
    | some [a] => some [a]
    | _ => none) = some as) : ∃ a, as = [a] ∧ o = some [a] := by
  split at h
  · cases h; exact ⟨_, rfl, rfl⟩
  · cases h
theorem sp_12 {o : Option (List Expr)} {as : List Expr} (h : (match o with
    | some [a] => some [a]
    | some [a, b] => some [a, b]
    | _ => none) = some as) : o = some as ∧ ((∃ a, as = [a]) ∨ ∃ a b, as = [a, b]) := by
  split at h
  · cases h; exact ⟨rfl, .inl ⟨_, rfl⟩⟩
  · cases h; exact ⟨rfl, .inr ⟨_, _, rfl⟩⟩
  · cases h
theorem sp_call {sc : Scope} {k : SP} {x : Expr} {as : List Expr} (h : spArgs sc k x = some as) : ∃ f bs p, x = .Call f bs [] p := by
  cases k with
  | isin t => obtain ⟨_, _, _, _, _, rfl, _⟩ := sp_isin h; exact ⟨_, _, _, rfl⟩
  | listrange => obtain ⟨_, _, _, _, rfl, _⟩ := sp_two (sp_12 h).1; exact ⟨_, _, _, rfl⟩
  | lenset => obtain ⟨_, _, e⟩ := sp_1 h; obtain ⟨_, _, _, _, rfl, _⟩ := sp_two e; exact ⟨_, _, _, rfl⟩
  | sortset => obtain ⟨_, _, e⟩ := sp_1 h; obtain ⟨_, _, _, _, rfl, _⟩ := sp_two e; exact ⟨_, _, _, rfl⟩
theorem sp_len {sc : Scope} {k : SP} {x : Expr} {as : List Expr} (h : spArgs sc k x = some as) : (∃ a, as = [a]) ∨ (k = .listrange ∧ ∃ a b, as = [a, b]) := by
  cases k with
  | isin t => obtain ⟨a, _, _, _, rfl, _⟩ := sp_isin h; exact .inl ⟨_, rfl⟩
  | listrange => exact (sp_12 h).2.imp id fun z => ⟨rfl, z⟩
  | lenset => obtain ⟨_, rfl, e⟩ := sp_1 h; exact .inl ⟨_, rfl⟩
  | sortset => obtain ⟨_, rfl, e⟩ := sp_1 h; exact .inl ⟨_, rfl⟩
section
variable {X : Cx} {c : CkT} {T : Tab} {sc : Scope} {cs : List Str} {wes : Rho → Sto → (List D → Sto → Prop) → Prop}
def KD.ty : KD → String
  | .non => "NoneType" | .bl => "bool" | .int => "int" | .str => "str" | .tup => "tuple" | .lst => "list" | .dct => "dict"
theorem kit_is (k : KD) (t : TyN) : kitB k.ty t.ty = some (isB k t) := by
  cases k <;> cases t <;> decide +kernel
theorem kd_ty {K : PySem.W.Frag} {H : Hp} {S : Sto} {d : D} {v : V} {k : KD} (rs : RepS K S H) (h : kdOf S d = some k) (r : RepV K H d v) : TyX K H v (.type k.ty) := by
  cases d with
  | non => cases h; rw [rv_non r]; exact .base .non
  | bl b => cases h; rw [rv_bl r]; exact .base (.bl b)
  | int b => cases h; rw [rv_int r]; exact .base (.int b)
  | str b => cases h; rw [rv_str r]; exact .base (.str b)
  | tup xs =>
    cases h
    obtain ⟨_, a, vs, rfl, q, _⟩ := rv_tupN r
    rcases q with ⟨o, e, _⟩ | ⟨o, its, n, e, e2, _⟩
    · exact .fTuple e
    · exact .kTuple e e2
  | cl xs => cases h
  | ref a =>
    rw [rv_ref r]
    replace h : (match S a with
      | some (.lst _) => some KD.lst
      | some (.dK _) => some KD.dct
      | _ => none) = some k := h
    cases e : S a with
    | none => rw [e] at h; cases h
    | some c =>
      rw [e] at h
      cases c with
      | lst ds =>
        cases h
        obtain ⟨_, vs, e', _⟩ := rs.lst e
        exact .base (.lst e')
      | dK kvs =>
        cases h
        obtain ⟨xs, e', _⟩ := rs a _ e
        exact .base (.dK e')
      | dT kvs => cases h
      | ins C fs => cases h
theorem ty_boot (t : TyN) : bootBuiltins t.nm = some (.type t.ty) := by cases t <;> decide +kernel
theorem ty_in (t : TyN) : t.nm ∈ bltN := by cases t <;> decide +kernel
theorem boot_isi : bootBuiltins "isinstance" = some (.builtin "isinstance") := by decide +kernel
variable {wa wb : Rho → Sto → QE → Prop} {x a b : Expr} {p p2 q pos : Pos}
theorem e_isin {t : TyN} (g : Gd X c T sc cs) (h1 : gloB sc "isinstance" = true) (h2 : gloB sc t.nm = true) (st : notStar a = true) (ha : PE X a (rdE X.K wa)) :
    PE X (.Call (.Name "isinstance" p) [a, .Name t.nm p2] [] pos) (rdE X.K fun ρ S Q => wa ρ S fun d S1 => wpSp (.isin t) [d] S1 Q) := by
  have hn : t.nm ≠ "__name__" := by cases t <;> (show (_ : Str) ≠ _; decide +kernel)
  have hd : (t.nm == ("__debug__" : Str)) = false := by cases t <;> (show ((_ : Str) == _) = _; decide +kernel)
  have pT : PE X (.Name t.nm p2) (tC (.ty t.ty)) := pe_bltn (g.glo h2) (g.fr _ (ty_in t)) (ty_boot t) rfl hn hd
  refine PE.imp (pe_callB call_isi (g.glo h1) (g.fr _ (by decide +kernel)) boot_isi (pa_cons ha (pa_cons pT pa_nil) (starEach_cons st)) (he := starEach_cons st)) fun σ H R ⟨ρ, S, Q, e, rs, hw, post⟩ => ?_
  refine rdE_bind e rs hw fun d S1 v H1 ⟨k, hk, hq⟩ x1 r1 rs1 => ?_
  exact ⟨v, .ty t.ty, .type k.ty, .type t.ty, isB k t, rfl, .ty _, kd_ty rs1 hk r1, kit_ty (kit_is k t), post.trans x1 |>.here rs1 hq (.b _)⟩
theorem rgD {K : PySem.W.Frag} {H : Hp} {i j : Int} : RepVs K H ((List.range (j - i).toNat).map fun (k : Nat) => D.int (i + (k : Int))) (rgV i j) := by
  have := RepVs.of_ints (K := K) (H := H) ((List.range (j - i).toNat).map fun (k : Nat) => i + (k : Int))
  rw [List.map_map, List.map_map] at this
  exact this
theorem e_lr1 (g : Gd X c T sc cs) (h1 : gloB sc "list" = true) (h2 : gloB sc "range" = true) (st : notStar a = true) (ha : PE X a (rdE X.K wa)) :
    PE X (.Call (.Name "list" p) [.Call (.Name "range" p2) [a] [] q] [] pos) (rdE X.K fun ρ S Q => wa ρ S fun d S1 => wpSp .listrange [d] S1 Q) := by
  have hz : szL = 16777216 := rfl
  refine PE.imp (pe_listRg g.cl (g.glo h1) (g.fr _ (by decide +kernel)) (prg_1 (g.glo h2) (g.fr _ (by decide +kernel)) ha (starEach_cons st))) fun σ H R ⟨ρ, S, Q, e, rs, hw, post⟩ => ?_
  refine rdE_bind e rs hw fun d S1 v H1 hq x1 r1 rs1 => ?_
  cases d <;> first | exact hq.elim | skip
  rename_i j
  obtain ⟨q1, q2, q3⟩ := hq
  refine ⟨j, rv_int r1, ⟨by omega, by omega, q2, by omega, by omega⟩, fun p hp => ?_⟩
  refine (post.trans x1).newL rs1 hp (by simp; omega) rgD ?_
  simpa using q3
theorem e_lr2 (g : Gd X c T sc cs) (h1 : gloB sc "list" = true) (h2 : gloB sc "range" = true) (st : notStar a = true) (st2 : notStar b = true) (ha : PE X a (rdE X.K wa)) (hb : PE X b (rdE X.K wb)) :
    PE X (.Call (.Name "list" p) [.Call (.Name "range" p2) [a, b] [] q] [] pos) (rdE X.K fun ρ S Q => wa ρ S fun d S1 => wb ρ S1 fun u S2 => wpSp .listrange [d, u] S2 Q) := by
  have hz : szL = 16777216 := rfl
  refine PE.imp (pe_listRg g.cl (g.glo h1) (g.fr _ (by decide +kernel)) (prg_2 (g.glo h2) (g.fr _ (by decide +kernel)) ha hb (starEach_cons st) (starEach_cons st2) (by rw [starEach_cons st2]; rfl))) fun σ H R ⟨ρ, S, Q, e, rs, hw, post⟩ => ?_
  refine rdE_bind e rs hw fun d S1 v H1 hq x1 r1 rs1 => ?_
  refine rdE_bind (e.mono (x1.tx rs)) rs1 hq fun u S2 v2 H2 hq2 x2 r2 rs2 => ?_
  clear hq
  cases d <;> cases u <;> first | exact hq2.elim | skip
  rename_i i j
  obtain ⟨q1, q2, q3⟩ := hq2
  refine ⟨i, j, rv_int r1, rv_int r2, ⟨q1.1, q1.2.1, q1.2.2.1, q1.2.2.2, by omega⟩, fun p hp => ?_⟩
  exact (post.trans (x1.trans x2)).newL rs2 hp (by simp; omega) rgD q3
theorem boot_set' : bootBuiltins "set" = some (.type "set") := by decide +kernel
theorem e_lenset (g : Gd X c T sc cs) (h1 : gloB sc "len" = true) (h2 : gloB sc "set" = true) (st : notStar a = true) (ha : PE X a (rdE X.K wa)) :
    PE X (.Call (.Name "len" p) [.Call (.Name "set" p2) [a] [] q] [] pos) (rdE X.K fun ρ S Q => wa ρ S fun d S1 => wpSp .lenset [d] S1 Q) := by
  refine ⟨fun pins s σ H R I ⟨ρ, S, Q, e, rs, hw, post⟩ => ?_⟩
  refine Call_ (ld_blt I (g.glo h1) (g.fr _ (by decide +kernel)) boot_len ?_)
  refine PyProof.Rows.callWith_builtin1 (PyProof.Rows.args_cons ?_ rfl) rfl rfl
  refine Call_ (ld_blt I (g.glo h2) (g.fr _ (by decide +kernel)) boot_set' ?_)
  have h : rdE X.K wa σ H (fun x H1 => ∃ (d : D) (S1 : Sto), RepV X.K H1 d x ∧ RepS X.K S1 H1 ∧ Ext H S H1 S1 ∧ wpSp .lenset [d] S1 Q) := ⟨ρ, S, _, e, rs, hw, fun d S1 v H1 hq x1 r1 rs1 => ⟨d, S1, r1, rs1, x1, hq⟩⟩
  refine PyProof.Rows.callWith_type1 (PyProof.Rows.args_cons (thn (ha.run pins s σ H _ I h) fun v s1 ⟨x, H1, I1, r1, q1⟩ => PyProof.Rows.args_nil ?_) (starEach_cons st)) (starEach_cons st) rfl
  obtain ⟨d, S1, rd, rs1, x1, ns, hl, hz, hq⟩ := q1
  obtain ⟨_, l, vs, rfl, hsq, rvs⟩ := hl.rep rs1 rd
  cases rvs.ints
  cases r1
  obtain ⟨its, r, pl, hz⟩ := I1.list hsq
  have hlen : its.toArray.size = ns.length := by rw [List.size_toArray, ← r.length, List.length_map]
  refine call_set_list (I1.ok.hd g.cl) pl.isList (by simpa using intsAre_vals r) (by rw [hlen]; unfold scanBound; omega) fun h' tk hS hk => ?_
  refine PyProof.Rows.args_nil ?_
  rw [hlen] at hS
  obtain ⟨o, es, ep, t, ho, hex, hd, _, _, _, hf, hn⟩ := hS
  have I2 : Inv X pins σ H1 { s1 with heap := h', toks := tk } := I1.kept fun b o e => hk b o (Heap.lt_size e) e
  have hfm : (firstMet (fun i => ns.getD i 0) ns.length).length ≤ ns.length := by
    have : ∀ n, (firstMet (fun i => ns.getD i 0) n).length ≤ n := by
      intro n
      induction n with
      | zero => exact Nat.le_refl _
      | succ n ih =>
        rw [firstMet_succ]
        unfold step_dedup
        split
        · omega
        · rw [List.length_append]; simp; exact ih
    exact this _
  exact call_len_set ho hex hd hf (by rw [hn] <;> omega) ⟨.int (distN ns), H1, I2.tok _, ⟨_, by rw [hn]; rfl⟩, (post.trans x1).here rs1 hq (.i _)⟩
theorem pairs_rep {K : PySem.W.Frag} {H : Hp} : ∀ {ds : List D} {vs : List V}, RepVs K H ds vs → (∀ d ∈ ds, PairD d) → ∃ ks : List (Addr × List Int), vs = ks.map (fun p => V.ref p.1) ∧ (∀ p ∈ ks, SqT K H p.1 (p.2.map V.int)) ∧ ds = ks.map (fun p => D.tup (p.2.map D.int)) ∧ (∀ p ∈ ks, p.2 ≠ []) ∧ ∀ p ∈ ks, RepV K H (.tup (p.2.map D.int)) (.ref p.1)
  | [], _, r, _ => ⟨[], r.nil_inv, nofun, rfl, nofun, nofun⟩
  | d :: ds, vs, r, h => by
    obtain ⟨v, vr, rfl, r1, r2⟩ := r.cons_inv
    obtain ⟨i, j, rfl⟩ := h d List.mem_cons_self
    obtain ⟨ks, rfl, h1, h2, h3, h4⟩ := pairs_rep r2 fun x hx => h x (List.mem_cons_of_mem _ hx)
    have r0 := r1
    obtain ⟨_, a, us, rfl, q, rv⟩ := rv_tup r1
    have e : us = ([i, j] : List Int).map V.int := RepVs.ints (ns := [i, j]) rv
    subst e
    refine ⟨(a, [i, j]) :: ks, rfl, fun p hp => ?_, by rw [h2]; rfl, fun p hp => ?_, fun p hp => ?_⟩
    · rcases List.mem_cons.mp hp with rfl | hp
      · exact q
      · exact h1 p hp
    · rcases List.mem_cons.mp hp with rfl | hp
      · simp
      · exact h3 p hp
    · rcases List.mem_cons.mp hp with rfl | hp
      · exact r0
      · exact h4 p hp
theorem rep_rows {K : PySem.W.Frag} {H : Hp} : ∀ (L : List (Addr × List Int)), (∀ p ∈ L, RepV K H (.tup (p.2.map D.int)) (.ref p.1)) → RepVs K H (L.map fun p => D.tup (p.2.map D.int)) (L.map fun p => V.ref p.1)
  | [], _ => .nil
  | p :: L, h => .cons (h p List.mem_cons_self) (rep_rows L fun q hq => h q (List.mem_cons_of_mem _ hq))
theorem boot_sorted' : bootBuiltins "sorted" = some (.builtin "sorted") := by decide +kernel
theorem e_sortset (g : Gd X c T sc cs) (h1 : gloB sc "sorted" = true) (h2 : gloB sc "set" = true) (st : notStar a = true) (ha : PE X a (rdE X.K wa)) :
    PE X (.Call (.Name "sorted" p) [.Call (.Name "set" p2) [a] [] q] [] pos) (rdE X.K fun ρ S Q => wa ρ S fun d S1 => wpSp .sortset [d] S1 Q) := by
  refine ⟨fun pins s σ H R I ⟨ρ, S, Q, e, rs, hw, post⟩ => ?_⟩
  refine Call_ (ld_blt I (g.glo h1) (g.fr _ (by decide +kernel)) boot_sorted' ?_)
  refine PyProof.Rows.callWith_builtin1 (PyProof.Rows.args_cons ?_ rfl) rfl rfl
  refine Call_ (ld_blt I (g.glo h2) (g.fr _ (by decide +kernel)) boot_set' ?_)
  have h : rdE X.K wa σ H (fun x H1 => ∃ (d : D) (S1 : Sto), RepV X.K H1 d x ∧ RepS X.K S1 H1 ∧ Ext H S H1 S1 ∧ wpSp .sortset [d] S1 Q) := ⟨ρ, S, _, e, rs, hw, fun d S1 v H1 hq x1 r1 rs1 => ⟨d, S1, r1, rs1, x1, hq⟩⟩
  refine PyProof.Rows.callWith_type1 (PyProof.Rows.args_cons (thn (ha.run pins s σ H _ I h) fun v s1 ⟨x, H1, I1, r1, q1⟩ => PyProof.Rows.args_nil ?_) (starEach_cons st)) (starEach_cons st) rfl
  obtain ⟨d, S1, rd, rs1, x1, ds, hl, hp, hz, hq⟩ := q1
  obtain ⟨_, l, vs, rfl, hsq, rvs⟩ := hl.rep rs1 rd
  obtain ⟨ks, rfl, k1, rfl, k3, k4⟩ := pairs_rep rvs hp
  rw [List.length_map] at hz
  cases r1
  obtain ⟨its, r, pl, _⟩ := I1.list hsq
  have un := g.un
  refine GT.set_of (P := X.prog) (w := X.w) (ks := ks) (I1.ok.hd g.cl) pl.isList (by simpa using refs_of_vals r) (fun p hp => I1.isT (k1 p hp)) hz (by omega) fun h' tk has hk => ?_
  refine PyProof.Rows.args_nil ?_
  have I2 : Inv X pins σ H1 { s1 with heap := h', toks := tk } := I1.kept hk
  refine GT.sorted_of (P := X.prog) (w := X.w) (s := { s1 with heap := h', toks := tk }) has (I2.ok.hd g.cl) hz k3 (by omega) fun s' pp out cc L k gg oo hp1 hg hout hlen hsub => ?_
  have hn : H1 pp = none := I2.hok.fresh hp1
  have rL := rep_rows (K := X.K) (H := H1) L fun z hz => k4 z (hsub z hz)
  have hv : Vals (L.map fun z => V.ref z.1) out.toList := by rw [hout]; exact vals_of_refs L
  have hle : (L.map fun z => V.ref z.1).length ≤ sizeLine := by rw [List.length_map, sizeLine_eq]; omega
  have J : Inv X pins σ (upd H1 pp (.lst (L.map fun z => V.ref z.1))) { ({ s1 with heap := h', toks := tk } : Shared) with heap := s'.heap, gens := s'.gens, drawn := s'.drawn, toks := s'.toks } :=
    I2.call (ch := []) (Un.laid k hp1 hn) (I2.hok.laid k hp1 ⟨hle, out.toList, cc, hv, hg⟩) (by rw [gg]; exact I2.bare) (fun _ z => nomatch z)
  have es : s' = { s1 with heap := s'.heap, gens := s'.gens, drawn := s'.drawn, toks := s'.toks } := by
    cases s'
    cases s1
    cases oo
    rfl
  rw [es]
  refine ⟨.ref pp, _, J, rfl, (post.trans x1).newL rs1 hn (by rw [List.length_map]; show L.length ≤ 16777216; omega) rL fun p0 hp0 => ?_⟩
  refine hq p0 _ hp0 (fun y hy => ?_) (by rw [List.length_map, List.length_map]; exact hlen)
  obtain ⟨z, hz, rfl⟩ := List.mem_map.mp hy
  exact List.mem_map.mpr ⟨z, hsub z hz, rfl⟩
theorem e_sp1 {k : SP} (g : Gd X c T sc cs) (h : spArgs sc k x = some [a]) (st : notStar a = true) (ha : PE X a (rdE X.K wa)) : PE X x (rdE X.K fun ρ S Q => wa ρ S fun d S1 => wpSp k [d] S1 Q) := by
  cases k with
  | isin t =>
    obtain ⟨_, _, _, _, e, rfl, h1, h2⟩ := sp_isin h
    cases e
    exact e_isin g h1 h2 st ha
  | listrange =>
    obtain ⟨_, _, _, _, rfl, h1, h2⟩ := sp_two (sp_12 h).1
    exact e_lr1 g h1 h2 st ha
  | lenset =>
    obtain ⟨_, e, e2⟩ := sp_1 h
    cases e
    obtain ⟨_, _, _, _, rfl, h1, h2⟩ := sp_two e2
    exact e_lenset g h1 h2 st ha
  | sortset =>
    obtain ⟨_, e, e2⟩ := sp_1 h
    cases e
    obtain ⟨_, _, _, _, rfl, h1, h2⟩ := sp_two e2
    exact e_sortset g h1 h2 st ha
theorem e_sp2 (g : Gd X c T sc cs) (h : spArgs sc .listrange x = some [a, b]) (st : notStar a = true) (st2 : notStar b = true) (ha : PE X a (rdE X.K wa)) (hb : PE X b (rdE X.K wb)) : PE X x (rdE X.K fun ρ S Q => wa ρ S fun d S1 => wb ρ S1 fun u S2 => wpSp .listrange [d, u] S2 Q) := by
  obtain ⟨_, _, _, _, rfl, h1, h2⟩ := sp_two (sp_12 h).1
  exact e_lr2 g h1 h2 st st2 ha hb
end
end G


namespace G
open PySem PySem.Spec PyProof.Rows L2 RZ

theorem sp_star {sc : Scope} {k : SP} {x : Expr} {p : Pos} {as : List Expr} (h : spArgs sc k (.Starred x p) = some as) : False := by
  obtain ⟨_, _, _, e⟩ := sp_call h
  cases e
theorem chE_star {c : CkT} {sc : Scope} {cs : List Str} {e : IE} {x : Expr} (h : chE c sc cs e x = true) : notStar x = true := by
  cases x <;> first | rfl | skip
  rename_i y p
  exfalso
  cases e <;> first | (unfold chE at h; cases h; done) | skip
  rename_i k es
  unfold chE at h
  cases hs : spArgs sc k (.Starred y p) with
  | none => rw [hs] at h; cases h
  | some as => exact sp_star hs
theorem chEs_star {c : CkT} {sc : Scope} {cs : List Str} : ∀ {es : IEs} {xs : List Expr}, chEs c sc cs es xs = true → xs.all notStar = true
  | .nil, [], _ => rfl
  | .cons e es, x :: xs, h => by
    unfold chEs at h
    rw [Bool.and_eq_true] at h
    rw [List.all_cons, chE_star h.1, chEs_star h.2]; rfl
  | .nil, _ :: _, h => by unfold chEs at h; cases h
  | .cons _ _, [], h => by unfold chEs at h; cases h
theorem PE.lc {X : Cx} {tg iter elt : Expr} {ifs : List Expr} {scope : Scope} {own : List (Str × Nat)} {wi : TI} {g : TG} {tt : TT} {te t' : TE} {pos : Pos} (h : PE X (.ListComp elt [⟨tg, iter, ifs, 0⟩] scope pos) (tLc wi g tt te (own.map (·.2)))) (i : ∀ σ H R, t' σ H R → tLc wi g tt te (own.map (·.2)) σ H R) : PE X (.ListComp elt [⟨tg, iter, ifs, 0⟩] scope pos) t' := PE.imp h i
theorem ts_nil {X : Cx} : PTs X [] (rdT X.K fun _ S Q => Q true S) := ⟨fun pins s σ H R I ⟨ρ, S, Q, e, rs, hw, post⟩ => pts_nil.run pins s σ H R I (post true S H hw Ext.refl rs)⟩
theorem ts_one {X : Cx} {x : Expr} {w : Rho → Sto → (Bool → Sto → Prop) → Prop} (h : PT X x (rdT X.K w)) : PTs X [x] (rdT X.K w) := pts_one h
theorem sp_true {sc : Scope} {k : SP} {x : Expr} {as : List Expr} {env : PySem.Env} {whole : Sem Value} (h : spArgs sc k x = some as) : isTrue x env whole = (do let v ← whole; standAt x.pos; holding [v] (truthy v)) := by
  obtain ⟨f, as, p, rfl⟩ := sp_call h
  rfl
theorem sp_get {c : CkT} {sc : Scope} {cs : List Str} {k : SP} {es : IEs} {x : Expr} (h : chE c sc cs (.sp k es) x = true) : ∃ as, spArgs sc k x = some as ∧ chEs c sc cs es as = true := by
  unfold chE at h
  cases hs : spArgs sc k x with
  | none => rw [hs] at h; cases h
  | some as => rw [hs] at h; exact ⟨as, rfl, h⟩
theorem sp_no {c : CkT} {sc : Scope} {cs : List Str} {k : SP} {x : Expr} (h : chE c sc cs (.sp k .nil) x = true) : False := by
  obtain ⟨as, h1, h2⟩ := sp_get h
  rcases sp_len h1 with ⟨a, rfl⟩ | ⟨_, a, b, rfl⟩ <;> (unfold chEs at h2; cases h2)
theorem sp_one {c : CkT} {sc : Scope} {cs : List Str} {k : SP} {e : IE} {x : Expr} (h : chE c sc cs (.sp k (.cons e .nil)) x = true) : ∃ a, spArgs sc k x = some [a] ∧ chE c sc cs e a = true := by
  obtain ⟨as, h1, h2⟩ := sp_get h
  rcases sp_len h1 with ⟨a, rfl⟩ | ⟨_, a, b, rfl⟩
  · unfold chEs at h2
    rw [Bool.and_eq_true] at h2
    exact ⟨a, h1, h2.1⟩
  · unfold chEs at h2
    rw [Bool.and_eq_true] at h2
    exact absurd h2.2 (by unfold chEs; nofun)
theorem sp_pair {c : CkT} {sc : Scope} {cs : List Str} {k : SP} {e f : IE} {x : Expr} (h : chE c sc cs (.sp k (.cons e (.cons f .nil))) x = true) : k = .listrange ∧ ∃ a b, spArgs sc .listrange x = some [a, b] ∧ chE c sc cs e a = true ∧ chE c sc cs f b = true := by
  obtain ⟨as, h1, h2⟩ := sp_get h
  rcases sp_len h1 with ⟨a, rfl⟩ | ⟨rfl, a, b, rfl⟩
  · unfold chEs at h2
    rw [Bool.and_eq_true] at h2
    exact absurd h2.2 (by unfold chEs; nofun)
  · unfold chEs at h2
    rw [Bool.and_eq_true] at h2
    obtain ⟨h3, h4⟩ := h2
    unfold chEs at h4
    rw [Bool.and_eq_true] at h4
    exact ⟨rfl, a, b, h1, h3, h4.1⟩
theorem sp_more {c : CkT} {sc : Scope} {cs : List Str} {k : SP} {e f d : IE} {r : IEs} {x : Expr} (h : chE c sc cs (.sp k (.cons e (.cons f (.cons d r)))) x = true) : False := by
  obtain ⟨as, h1, h2⟩ := sp_get h
  rcases sp_len h1 with ⟨a, rfl⟩ | ⟨_, a, b, rfl⟩
  · unfold chEs at h2
    rw [Bool.and_eq_true] at h2
    exact absurd h2.2 (by unfold chEs; nofun)
  · unfold chEs at h2
    rw [Bool.and_eq_true] at h2
    obtain ⟨h3, h4⟩ := h2
    unfold chEs at h4
    rw [Bool.and_eq_true] at h4
    exact absurd h4.2 (by unfold chEs; nofun)
/-- a comprehension's block stands well -/
theorem Gd.blk {X : Cx} {c : CkT} {T : Tab} {sc scope : Scope} {cs : List Str} (g : Gd X c T sc cs) {own : List (Str × Nat)} (ok : BlkOk X.N X.env.scope scope own) (s : Shared) (H : Hp) (C : Addr) (cl : List (Str × Addr)) (fp : List Addr) :
    Gd (X.blk s H scope (compEnvC scope cl C X.env) fp) c T (relS scope sc) (cellsOfS scope) where
  N := g.N
  nd := g.nd
  sce := by
    have : (compEnvC scope cl C X.env).scope = relS scope X.env.scope := rfl
    rw [← g.sce]
    exact this
  kd := ok.kind
  cl := g.cl
  xe := rfl
  fn := fun x hx => by
    unfold cellsOfS at hx
    obtain ⟨p, hp, e⟩ := List.mem_filterMap.mp hx
    split at e
    · rename_i hc
      cases e
      show (scope.names.lookup p.1 == some .cell) = true
      rw [ok.uniq p hp, hc]
      rfl
    · cases e
  rm := g.rm
  fs := g.fs
  gs := g.gs
  fr := g.fr

/-- where a target must be taken apart, a tuple as a loop hands it out will do -/
def WOf : Bool → PySem.W.Frag → Hp → D → V → Prop
  | true => RepW
  | false => RepV
theorem tg_ok {X : Cx} {c : CkT} {T : Tab} {sc : Scope} {cs : List Str} (t : IT) (e : Expr) (g : Gd X c T sc cs) (h : chT c sc cs t e = true) : PG X e (rdG X.K (slotsT t) (WOf (isTp t)) (asgT t)) := by
  cases t with
  | nm i => exact soundT (.nm i) e g h
  | tp ts => exact soundTw ts e g h
theorem i_weak {X : Cx} {tg iter : Expr} {w : Rho → Sto → (List D → (Sto → Prop) → Sto → Prop) → Prop} (b : Bool) (h : PI X tg iter (rdI X.K RepV w)) : PI X tg iter (rdI X.K (WOf b) w) := by
  cases b with
  | true => exact PI.imp h fun _ _ _ => rdI.weak
  | false => exact h
theorem chI_set {c : CkT} {sc : Scope} {cs : List Str} {it : II} {tg iter : Expr} {tp : Bool} (h : chI c sc cs it tg iter tp = true) : notSet iter = true := by
  cases iter <;> first | rfl | skip
  cases it with
  | val e =>
    unfold chI at h
    rw [Bool.and_eq_true] at h
    exact h.1
  | rng es => unfold chI at h; cases h
  | enm e => cases tg <;> (unfold chI at h; cases h)
  | zip a b => cases tg <;> (unfold chI at h; cases h)
  | itm e => unfold chI at h; cases h
theorem no_test {X : Cx} {x : Expr} {w : Rho → Sto → (Bool → Sto → Prop) → Prop} (h : ∀ ρ S Q, w ρ S Q → False) : PT X x (rdT X.K w) := ⟨fun pins s σ H R I ⟨ρ, S, Q, e, rs, hw, post⟩ => (h _ _ _ hw).elim⟩
theorem revB_hi {k : Nat} {u : Option Expr} (h : revB k u = true) : RevHi k u := by
  match k, u, h with
  | 0, none, _ => exact .all
  | 1, some (.Constant (.int j) _ _), h =>
    have h' : decide (j = 0) = true := h
    rw [decide_eq_true_eq] at h'
    subst h'
    exact .one
theorem chO_two {c : CkT} {sc : Scope} {cs : List Str} {e f : IE} {r : IEs} {x : Expr} (h : chO c sc cs (.cons e (.cons f r)) (some x) = true) : False := by unfold chO at h; cases h
theorem chO_non {c : CkT} {sc : Scope} {cs : List Str} {x : Expr} (h : chO c sc cs .nil (some x) = true) : False := by unfold chO at h; cases h
theorem chO_miss {c : CkT} {sc : Scope} {cs : List Str} {e : IE} {r : IEs} (h : chO c sc cs (.cons e r) none = true) : False := by cases r <;> (unfold chO at h; cases h)
theorem chC_two {c : CkT} {sc : Scope} {cs : List Str} {e f : IE} {r : IEs} {x : Expr} (h : chC c sc cs (.cons e (.cons f r)) [x] = true) : False := by unfold chC at h; cases h
theorem chC_many {c : CkT} {sc : Scope} {cs : List Str} {e : IE} {r : IEs} {x y : Expr} {z : List Expr} (h : chC c sc cs (.cons e r) (x :: y :: z) = true) : False := by cases r <;> (unfold chC at h; cases h)
theorem chC_non {c : CkT} {sc : Scope} {cs : List Str} {x : Expr} {z : List Expr} (h : chC c sc cs .nil (x :: z) = true) : False := by unfold chC at h; cases h
theorem chC_miss {c : CkT} {sc : Scope} {cs : List Str} {e : IE} {r : IEs} (h : chC c sc cs (.cons e r) [] = true) : False := by cases r <;> (unfold chC at h; cases h)
theorem chEs_non {c : CkT} {sc : Scope} {cs : List Str} {x : Expr} {z : List Expr} (h : chEs c sc cs .nil (x :: z) = true) : False := by unfold chEs at h; cases h
theorem chEs_miss {c : CkT} {sc : Scope} {cs : List Str} {e : IE} {r : IEs} (h : chEs c sc cs (.cons e r) [] = true) : False := by unfold chEs at h; cases h
theorem chE_lc2 {c : CkT} {sc : Scope} {cs : List Str} {ws : List Nat} {t : IT} {it : II} {f : IEs} {e : IE} {x : Expr} {a b : Comprehension} {l : List Comprehension} {scope : Scope} {p : Pos} (h : chE c sc cs (.lc ws t it f e) (.ListComp x (a :: b :: l) scope p) = true) : False := by
  simp [chE] at h
theorem chE_lc0 {c : CkT} {sc : Scope} {cs : List Str} {ws : List Nat} {t : IT} {it : II} {f : IEs} {e : IE} {x : Expr} {scope : Scope} {p : Pos} (h : chE c sc cs (.lc ws t it f e) (.ListComp x [] scope p) = true) : False := by
  simp [chE] at h
/-- what enumerate, zip are given -/
theorem chI_enm {c : CkT} {sc : Scope} {cs : List Str} {e : IE} {tg iter : Expr} {tp : Bool} (h : chI c sc cs (.enm e) tg iter tp = true) : ∃ es k p q a r, tg = .Tuple es k p ∧ iter = .Call (.Name "enumerate" q) [a] [] r ∧ tp = true ∧ gloB sc "enumerate" = true ∧ chE c sc cs e a = true := by
  cases tg <;> first | (unfold chI at h; cases h; done) | skip
  cases iter <;> first | (unfold chI at h; cases h; done) | skip
  rename_i fn as ks p
  cases fn <;> first | (unfold chI at h; cases h; done) | skip
  match as, ks, h with
  | [a], [], h =>
    unfold chI at h
    simp only [Bool.and_eq_true, decide_eq_true_eq] at h
    obtain ⟨⟨⟨rfl, rfl⟩, h2⟩, h4⟩ := h
    exact ⟨_, _, _, _, _, _, rfl, rfl, rfl, h2, h4⟩
  | [], _, h => simp [chI] at h
  | _ :: _ :: _, _, h => simp [chI] at h
  | [_], _ :: _, h => simp [chI] at h
theorem chI_zip {c : CkT} {sc : Scope} {cs : List Str} {e f : IE} {tg iter : Expr} {tp : Bool} (h : chI c sc cs (.zip e f) tg iter tp = true) : ∃ es k p q a b r, tg = .Tuple es k p ∧ iter = .Call (.Name "zip" q) [a, b] [] r ∧ tp = true ∧ gloB sc "zip" = true ∧ chE c sc cs e a = true ∧ chE c sc cs f b = true := by
  cases tg <;> first | (unfold chI at h; cases h; done) | skip
  cases iter <;> first | (unfold chI at h; cases h; done) | skip
  rename_i fn as ks p
  cases fn <;> first | (unfold chI at h; cases h; done) | skip
  match as, ks, h with
  | [a, b], [], h =>
    unfold chI at h
    simp only [Bool.and_eq_true, decide_eq_true_eq] at h
    obtain ⟨⟨⟨⟨rfl, rfl⟩, h2⟩, h4⟩, h5⟩ := h
    exact ⟨_, _, _, _, _, _, _, rfl, rfl, rfl, h2, h4, h5⟩
  | [], _, h => simp [chI] at h
  | [_], _, h => simp [chI] at h
  | _ :: _ :: _ :: _, _, h => simp [chI] at h
  | [_, _], _ :: _, h => simp [chI] at h
variable {T : Tab}
mutual
theorem sE : ∀ (e : IE) {X : Cx} {c : CkT} {sc : Scope} {cs : List Str} (x : Expr), Gd X c T sc cs → chE c sc cs e x = true → PE X x (rdE X.K (wpE T e))
  | .var i, X, c, sc, cs, x, g, h => by
    cases x <;> first | (unfold chE at h; cases h; done) | skip
    unfold chE at h
    rw [Bool.and_eq_true, Bool.and_eq_true, decide_eq_true_eq] at h
    exact e_var (by rw [g.N]; exact h.1.1) (g.vis h.1.2) h.2
  | .cI i, X, c, sc, cs, x, g, h => by
    cases x <;> first | (unfold chE at h; cases h; done) | skip
    rename_i k _ _
    cases k <;> first | (unfold chE at h; cases h; done) | skip
    unfold chE at h
    rw [decide_eq_true_eq] at h
    subst h
    exact e_const pe_int fun H => .i _
  | .cB b, X, c, sc, cs, x, g, h => by
    cases x <;> first | (unfold chE at h; cases h; done) | skip
    rename_i k _ _
    cases k <;> first | (unfold chE at h; cases h; done) | skip
    unfold chE at h
    have h' := eq_of_beq h
    subst h'
    exact e_const pe_bl fun H => .b _
  | .cN, X, c, sc, cs, x, g, h => by
    cases x <;> first | (unfold chE at h; cases h; done) | skip
    rename_i k _ _
    cases k <;> first | (unfold chE at h; cases h; done) | skip
    exact e_const pe_non fun H => .n
  | .cS s, X, c, sc, cs, x, g, h => by
    cases x <;> first | (unfold chE at h; cases h; done) | skip
    rename_i k _ _
    cases k <;> first | (unfold chE at h; cases h; done) | skip
    unfold chE at h
    rw [decide_eq_true_eq] at h
    subst h
    exact e_const pe_str fun H => .s _
  | .glo j, X, c, sc, cs, x, g, h => by
    cases x <;> first | (unfold chE at h; cases h; done) | skip
    unfold chE at h
    rw [Bool.and_eq_true, Bool.and_eq_true, decide_eq_true_eq] at h
    obtain ⟨d, u, v, h1, h2, h3, h4⟩ := g.gs j _ h.1.1
    have hn := h.2
    unfold nmOk at hn
    rw [Bool.and_eq_true, Bool.not_eq_true', Bool.not_eq_true'] at hn
    refine PE.imp (e_const (pe_glob (g.glo h.1.2) h2 h3 hn.1) h4) fun σ H R ⟨ρ, S, Q, e, rs, hw, post⟩ => ⟨ρ, S, Q, e, rs, ?_, post⟩
    unfold wpE at hw
    rw [h1] at hw
    exact hw
  | .bin o a b, X, c, sc, cs, x, g, h => by
    cases x <;> first | (unfold chE at h; cases h; done) | skip
    unfold chE at h
    rw [Bool.and_eq_true, Bool.and_eq_true, decide_eq_true_eq] at h
    obtain ⟨⟨rfl, h1⟩, h2⟩ := h
    exact e_bin (sE a _ g h1) (sE b _ g h2)
  | .neg a, X, c, sc, cs, x, g, h => by
    cases x <;> first | (unfold chE at h; cases h; done) | skip
    rename_i o _ _
    cases o <;> first | (unfold chE at h; cases h; done) | skip
    unfold chE at h
    exact e_neg (sE a _ g h)
  | .nt a, X, c, sc, cs, x, g, h => by
    cases x <;> first | (unfold chE at h; cases h; done) | skip
    rename_i o _ _
    cases o <;> first | (unfold chE at h; cases h; done) | skip
    unfold chE at h
    exact e_not (sE a _ g h)
  | .and a b, X, c, sc, cs, x, g, h => by
    cases x <;> first | (unfold chE at h; cases h; done) | skip
    rename_i o es p
    cases o <;> first | (unfold chE at h; cases h; done) | skip
    match es, h with
    | [], h => unfold chE at h; cases h
    | [_], h => unfold chE at h; cases h
    | [x, y], h =>
      unfold chE at h
      rw [Bool.and_eq_true] at h
      exact e_and (sE a _ g h.1) (pe_one (sE b _ g h.2))
    | x :: y :: z :: r, h =>
      unfold chE at h
      rw [Bool.and_eq_true] at h
      exact e_and (sE a _ g h.1) (sE b _ g h.2)
  | .or a b, X, c, sc, cs, x, g, h => by
    cases x <;> first | (unfold chE at h; cases h; done) | skip
    rename_i o es p
    cases o <;> first | (unfold chE at h; cases h; done) | skip
    match es, h with
    | [], h => unfold chE at h; cases h
    | [_], h => unfold chE at h; cases h
    | [x, y], h =>
      unfold chE at h
      rw [Bool.and_eq_true] at h
      exact e_or (sE a _ g h.1) (pe_one (sE b _ g h.2))
    | x :: y :: z :: r, h =>
      unfold chE at h
      rw [Bool.and_eq_true] at h
      exact e_or (sE a _ g h.1) (sE b _ g h.2)
  | .cmp o a b, X, c, sc, cs, x, g, h => by
    cases x <;> first | (unfold chE at h; cases h; done) | skip
    rename_i l ops rs p
    match ops, rs, h with
    | [p1], [r], h =>
      unfold chE at h
      rw [Bool.and_eq_true, Bool.and_eq_true, Bool.and_eq_true, decide_eq_true_eq, Bool.not_eq_true'] at h
      obtain ⟨⟨⟨rfl, hm⟩, h1⟩, h2⟩ := h
      exact e_cmp (by have := g.un; omega) (sE a _ g h1) (sE b _ g h2) hm
    | [], _, h => unfold chE at h; cases h
    | _ :: _ :: _, _, h => unfold chE at h; cases h
    | [_], [], h => unfold chE at h; cases h
    | [_], _ :: _ :: _, h => unfold chE at h; cases h
  | .chn o o2 a b d, X, c, sc, cs, x, g, h => by
    cases x <;> first | (unfold chE at h; cases h; done) | skip
    rename_i l ops rs p
    match ops, rs, h with
    | [p1, p2], [m, r], h =>
      unfold chE at h
      simp only [Bool.and_eq_true, decide_eq_true_eq, Bool.not_eq_true'] at h
      obtain ⟨⟨⟨⟨⟨rfl, rfl⟩, hm⟩, h1⟩, h2⟩, h3⟩ := h
      exact e_chn (by have := g.un; omega) (sE a _ g h1) (sE b _ g h2) (sE d _ g h3) hm
    | [], _, h => unfold chE at h; cases h
    | [_], _, h => unfold chE at h; cases h
    | _ :: _ :: _ :: _, _, h => unfold chE at h; cases h
    | [_, _], [], h => unfold chE at h; cases h
    | [_, _], [_], h => unfold chE at h; cases h
    | [_, _], _ :: _ :: _ :: _, h => unfold chE at h; cases h
  | .ite d a b, X, c, sc, cs, x, g, h => by
    cases x <;> first | (unfold chE at h; cases h; done) | skip
    unfold chE at h
    rw [Bool.and_eq_true, Bool.and_eq_true] at h
    exact e_ite (sT d _ g h.1.1) (sE a _ g h.1.2) (sE b _ g h.2)
  | .call f es, X, c, sc, cs, x, g, h => by
    cases x <;> first | (unfold chE at h; cases h; done) | skip
    rename_i fn as ks p
    cases fn <;> first | (unfold chE at h; cases h; done) | skip
    cases as <;> first | (unfold chE at h; cases h; done) | skip
    cases ks <;> first | (unfold chE at h; cases h; done) | skip
    unfold chE at h
    rw [Bool.and_eq_true, Bool.and_eq_true, Bool.and_eq_true, decide_eq_true_eq] at h
    obtain ⟨⟨⟨h1, h2⟩, h3⟩, h4⟩ := h
    obtain ⟨w, hw, F⟩ := g.fs f _ h1
    unfold nmOk at h3
    rw [Bool.and_eq_true, Bool.not_eq_true', Bool.not_eq_true'] at h3
    refine PE.imp (e_call F g.xe (g.glo h2) (chEs_star h4) (sEs es _ g h4) h3.1) fun σ H R ⟨ρ, S, Q, e, rs, hq, post⟩ => ⟨ρ, S, Q, e, rs, ?_, post⟩
    unfold wpE at hq
    rw [hw] at hq
    exact hq
  | .bi b es, X, c, sc, cs, x, g, h => by
    cases x <;> first | (unfold chE at h; cases h; done) | skip
    rename_i fn as ks p
    cases fn <;> first | (unfold chE at h; cases h; done) | skip
    cases as <;> first | (unfold chE at h; cases h; done) | skip
    cases ks <;> first | (unfold chE at h; cases h; done) | skip
    unfold chE at h
    simp only [Bool.and_eq_true, decide_eq_true_eq] at h
    obtain ⟨⟨⟨⟨h1, rfl⟩, h2⟩, h3⟩, h4⟩ := h
    unfold nmOk at h3
    rw [Bool.and_eq_true, Bool.not_eq_true', Bool.not_eq_true'] at h3
    exact e_bi h1 g.cl g.un (g.glo h2) (g.bl b h1) (chEs_star h4) (sEs es _ g h4) h3.1
  | .mt m o es, X, c, sc, cs, x, g, h => by
    cases x <;> first | (unfold chE at h; cases h; done) | skip
    rename_i fn as ks p
    cases fn <;> first | (unfold chE at h; cases h; done) | skip
    cases ks <;> first | (unfold chE at h; cases h; done) | skip
    unfold chE at h
    simp only [Bool.and_eq_true, decide_eq_true_eq] at h
    obtain ⟨⟨⟨⟨⟨⟨h1, rfl⟩, h2⟩, h3⟩, h4⟩, h5⟩, h6⟩ := h
    cases as with
    | nil =>
      cases es with
      | nil => exact e_mt0 h1 g.un h2 h3 (sE o _ g h5)
      | cons _ _ => unfold chEs at h6; cases h6
    | cons y ys => exact e_mt h1 g.un h2 h3 (chEs_star h6) h4 (sE o _ g h5) (sEs es _ g h6)
  | .sp k .nil, X, c, sc, cs, x, g, h => (sp_no h).elim
  | .sp k (.cons e .nil), X, c, sc, cs, x, g, h => by
    obtain ⟨a, hs, ha⟩ := sp_one h
    exact e_sp1 g hs (chE_star ha) (sE e a g ha)
  | .sp k (.cons e (.cons f .nil)), X, c, sc, cs, x, g, h => by
    obtain ⟨rfl, a, b, hs, ha, hb⟩ := sp_pair h
    exact e_sp2 g hs (chE_star ha) (chE_star hb) (sE e a g ha) (sE f b g hb)
  | .sp k (.cons e (.cons f (.cons _ _))), X, c, sc, cs, x, g, h => (sp_more h).elim
  | .ix a b, X, c, sc, cs, x, g, h => by
    cases x <;> first | (unfold chE at h; cases h; done) | skip
    unfold chE at h
    rw [Bool.and_eq_true, Bool.and_eq_true] at h
    exact e_ix h.1.1 (sE a _ g h.1.2) (sE b _ g h.2)
  | .sl a lo hi, X, c, sc, cs, x, g, h => by
    cases x <;> first | (unfold chE at h; cases h; done) | skip
    rename_i v s p
    cases s <;> first | (unfold chE at h; cases h; done) | skip
    rename_i l u st p2
    cases st <;> first | (unfold chE at h; cases h; done) | skip
    unfold chE at h
    rw [Bool.and_eq_true, Bool.and_eq_true] at h
    exact e_sl (sE a _ g h.1.1) (sO lo _ g h.1.2) (sO hi _ g h.2)
  | .rev k a, X, c, sc, cs, x, g, h => by
    cases x <;> first | (unfold chE at h; cases h; done) | skip
    rename_i v s p
    cases s <;> first | (unfold chE at h; cases h; done) | skip
    rename_i l u st p2
    cases l <;> first | (unfold chE at h; cases h; done) | skip
    cases st <;> first | (unfold chE at h; cases h; done) | skip
    rename_i st
    cases st <;> first | (unfold chE at h; cases h; done) | skip
    rename_i o z p3
    cases o <;> first | (unfold chE at h; cases h; done) | skip
    cases z <;> first | (unfold chE at h; cases h; done) | skip
    rename_i kz kk p4
    cases kz <;> first | (unfold chE at h; cases h; done) | skip
    unfold chE at h
    rw [Bool.and_eq_true, Bool.and_eq_true, decide_eq_true_eq] at h
    obtain ⟨⟨rfl, h1⟩, h2⟩ := h
    exact e_rev (revB_hi h1) (sE a _ g h2)
  | .tup es, X, c, sc, cs, x, g, h => by
    cases x <;> first | (unfold chE at h; cases h; done) | skip
    unfold chE at h
    exact e_tup (sEs es _ g h)
  | .lst es, X, c, sc, cs, x, g, h => by
    cases x <;> first | (unfold chE at h; cases h; done) | skip
    unfold chE at h
    exact e_lst (sEs es _ g h)
  | .dct k, X, c, sc, cs, x, g, h => by
    cases x <;> (unfold chE at h; cases h; done)
  | .lc ws t it ifs e, X, c, sc, cs, x, g, h => by
    cases x <;> first | (unfold chE at h; cases h; done) | skip
    rename_i elt gens scope p
    match gens, h with
    | [⟨tg, iter, tests, asy⟩], h =>
      unfold chE at h
      simp only [Bool.and_eq_true, decide_eq_true_eq] at h
      obtain ⟨⟨⟨⟨⟨⟨⟨rfl, hws⟩, hb⟩, hsl⟩, hi⟩, ht⟩, hc⟩, he⟩ := h
      have ok : BlkOk X.N X.env.scope scope (ownOf c.N scope) := by rw [g.N, g.sce]; exact blkOk_by hb
      have hset := folded_plain (env := X.env) (chI_set hi)
      have hsl' : ∀ i ∈ slotsT t, i ∈ (ownOf c.N scope).map (·.2) := fun i hi => by
        have := List.all_eq_true.mp hsl i hi
        rw [← hws]
        simpa using this
      have PIx := sI it tg iter (isTp t) g hi
      subst hws
      exact PE.imp (pe_lc g.cl g.nd PIx ok (fun s H C cl fp => tg_ok t tg (g.blk ok s H C cl fp) ht) (fun s H C cl fp => sC ifs tests (g.blk ok s H C cl fp) hc) (fun s H C cl fp => sE e elt (g.blk ok s H C cl fp) he) hset)
        (e_lc g.cl g.nd PIx ok hsl' (fun s H C cl fp => tg_ok t tg (g.blk ok s H C cl fp) ht) (fun s H C cl fp => sC ifs tests (g.blk ok s H C cl fp) hc) (fun s H C cl fp => sE e elt (g.blk ok s H C cl fp) he) hset)
    | [], h => exact (chE_lc0 h).elim
    | _ :: _ :: _, h => exact (chE_lc2 h).elim
theorem sT : ∀ (e : IE) {X : Cx} {c : CkT} {sc : Scope} {cs : List Str} (x : Expr), Gd X c T sc cs → chE c sc cs e x = true → PT X x (rdT X.K (wpT T e))
  | .nt a, X, c, sc, cs, x, g, h => by
    cases x <;> first | (unfold chE at h; cases h; done) | skip
    rename_i o _ _
    cases o <;> first | (unfold chE at h; cases h; done) | skip
    unfold chE at h
    exact t_not (sT a _ g h)
  | .and a b, X, c, sc, cs, x, g, h => by
    cases x <;> first | (unfold chE at h; cases h; done) | skip
    rename_i o es p
    cases o <;> first | (unfold chE at h; cases h; done) | skip
    match es, h with
    | [], h => unfold chE at h; cases h
    | [_], h => unfold chE at h; cases h
    | [x, y], h =>
      unfold chE at h
      rw [Bool.and_eq_true] at h
      exact t_and (sT a _ g h.1) (pw_and1 (sT b _ g h.2))
    | x :: y :: z :: r, h =>
      unfold chE at h
      rw [Bool.and_eq_true] at h
      exact t_and (sT a _ g h.1) (pw_of (sT b _ g h.2))
  | .or a b, X, c, sc, cs, x, g, h => by
    cases x <;> first | (unfold chE at h; cases h; done) | skip
    rename_i o es p
    cases o <;> first | (unfold chE at h; cases h; done) | skip
    match es, h with
    | [], h => unfold chE at h; cases h
    | [_], h => unfold chE at h; cases h
    | [x, y], h =>
      unfold chE at h
      rw [Bool.and_eq_true] at h
      exact t_or (sT a _ g h.1) (pw_or1 (sT b _ g h.2))
    | x :: y :: z :: r, h =>
      unfold chE at h
      rw [Bool.and_eq_true] at h
      exact t_or (sT a _ g h.1) (pw_of (sT b _ g h.2))
  | .cmp o a b, X, c, sc, cs, x, g, h => by
    cases x <;> first | (unfold chE at h; cases h; done) | skip
    rename_i l ops rs p
    match ops, rs, h with
    | [p1], [r], h =>
      unfold chE at h
      rw [Bool.and_eq_true, Bool.and_eq_true, Bool.and_eq_true, decide_eq_true_eq, Bool.not_eq_true'] at h
      obtain ⟨⟨⟨rfl, hm⟩, h1⟩, h2⟩ := h
      exact t_cmp (by have := g.un; omega) (sE a _ g h1) (sE b _ g h2) hm
    | [], _, h => unfold chE at h; cases h
    | _ :: _ :: _, _, h => unfold chE at h; cases h
    | [_], [], h => unfold chE at h; cases h
    | [_], _ :: _ :: _, h => unfold chE at h; cases h
  | .chn o o2 a b d, X, c, sc, cs, x, g, h => by
    cases x <;> first | (unfold chE at h; cases h; done) | skip
    rename_i l ops rs p
    match ops, rs, h with
    | [p1, p2], [m, r], h =>
      unfold chE at h
      simp only [Bool.and_eq_true, decide_eq_true_eq, Bool.not_eq_true'] at h
      obtain ⟨⟨⟨⟨⟨rfl, rfl⟩, hm⟩, h1⟩, h2⟩, h3⟩ := h
      exact t_chn (by have := g.un; omega) (sE a _ g h1) (sE b _ g h2) (sE d _ g h3) hm
    | [], _, h => unfold chE at h; cases h
    | [_], _, h => unfold chE at h; cases h
    | _ :: _ :: _ :: _, _, h => unfold chE at h; cases h
    | [_, _], [], h => unfold chE at h; cases h
    | [_, _], [_], h => unfold chE at h; cases h
    | [_, _], _ :: _ :: _ :: _, h => unfold chE at h; cases h
  | .call f es, X, c, sc, cs, x, g, h => by
    cases x <;> first | (unfold chE at h; cases h; done) | skip
    rename_i fn as ks p
    cases fn <;> first | (unfold chE at h; cases h; done) | skip
    cases as <;> first | (unfold chE at h; cases h; done) | skip
    cases ks <;> first | (unfold chE at h; cases h; done) | skip
    unfold chE at h
    rw [Bool.and_eq_true, Bool.and_eq_true, Bool.and_eq_true, decide_eq_true_eq] at h
    obtain ⟨⟨⟨h1, h2⟩, h3⟩, h4⟩ := h
    obtain ⟨w, hw, F⟩ := g.fs f _ h1
    unfold nmOk at h3
    rw [Bool.and_eq_true, Bool.not_eq_true', Bool.not_eq_true'] at h3
    refine PT.imp (t_val (e_call F g.xe (g.glo h2) (chEs_star h4) (sEs es _ g h4) h3.1) fun _ => rfl) fun σ H R ⟨ρ, S, Q, e, rs, hq, post⟩ => ⟨ρ, S, Q, e, rs, ?_, post⟩
    unfold wpT at hq
    rw [hw] at hq
    exact hq
  | .bi b es, X, c, sc, cs, x, g, h => by
    cases x <;> first | (unfold chE at h; cases h; done) | skip
    rename_i fn as ks p
    cases fn <;> first | (unfold chE at h; cases h; done) | skip
    cases as <;> first | (unfold chE at h; cases h; done) | skip
    cases ks <;> first | (unfold chE at h; cases h; done) | skip
    unfold chE at h
    simp only [Bool.and_eq_true, decide_eq_true_eq] at h
    obtain ⟨⟨⟨⟨h1, rfl⟩, h2⟩, h3⟩, h4⟩ := h
    unfold nmOk at h3
    rw [Bool.and_eq_true, Bool.not_eq_true', Bool.not_eq_true'] at h3
    exact t_val (e_bi h1 g.cl g.un (g.glo h2) (g.bl b h1) (chEs_star h4) (sEs es _ g h4) h3.1) fun _ => rfl
  | .var i, X, c, sc, cs, x, g, h => by
    cases x <;> first | (unfold chE at h; cases h; done) | skip
    unfold chE at h
    rw [Bool.and_eq_true, Bool.and_eq_true, decide_eq_true_eq] at h
    refine PT.imp (t_val (e_var (by rw [g.N]; exact h.1.1) (g.vis h.1.2) h.2) fun _ => rfl) fun σ H R ⟨ρ, S, Q, e, rs, hq, post⟩ => ⟨ρ, S, Q, e, rs, ?_, post⟩
    exact hq
  | .sp k .nil, X, c, sc, cs, x, g, h => (sp_no h).elim
  | .sp k (.cons e .nil), X, c, sc, cs, x, g, h => by
    obtain ⟨a, hs, ha⟩ := sp_one h
    exact t_val (e_sp1 g hs (chE_star ha) (sE e a g ha)) fun _ => sp_true hs
  | .sp k (.cons e (.cons f .nil)), X, c, sc, cs, x, g, h => by
    obtain ⟨rfl, a, b, hs, ha, hb⟩ := sp_pair h
    exact t_val (e_sp2 g hs (chE_star ha) (chE_star hb) (sE e a g ha) (sE f b g hb)) fun _ => sp_true hs
  | .sp k (.cons e (.cons f (.cons _ _))), X, c, sc, cs, x, g, h => (sp_more h).elim
  | .ix a b, X, c, sc, cs, x, g, h => by
    cases x <;> first | (unfold chE at h; cases h; done) | skip
    unfold chE at h
    rw [Bool.and_eq_true, Bool.and_eq_true] at h
    exact t_val (e_ix h.1.1 (sE a _ g h.1.2) (sE b _ g h.2)) fun _ => rfl
  | .mt m o es, X, c, sc, cs, x, g, h => by
    cases x <;> first | (unfold chE at h; cases h; done) | skip
    rename_i fn as ks p
    cases fn <;> first | (unfold chE at h; cases h; done) | skip
    cases ks <;> first | (unfold chE at h; cases h; done) | skip
    unfold chE at h
    simp only [Bool.and_eq_true, decide_eq_true_eq] at h
    obtain ⟨⟨⟨⟨⟨⟨h1, rfl⟩, h2⟩, h3⟩, h4⟩, h5⟩, h6⟩ := h
    cases as with
    | nil =>
      cases es with
      | nil => exact t_val (e_mt0 h1 g.un h2 h3 (sE o _ g h5)) fun _ => rfl
      | cons _ _ => unfold chEs at h6; cases h6
    | cons y ys => exact t_val (e_mt h1 g.un h2 h3 (chEs_star h6) h4 (sE o _ g h5) (sEs es _ g h6)) fun _ => rfl
  | .cI _, X, c, sc, cs, x, g, h => no_test fun _ _ _ q => q
  | .cB _, X, c, sc, cs, x, g, h => no_test fun _ _ _ q => q
  | .cN, X, c, sc, cs, x, g, h => no_test fun _ _ _ q => q
  | .cS _, X, c, sc, cs, x, g, h => no_test fun _ _ _ q => q
  | .glo _, X, c, sc, cs, x, g, h => no_test fun _ _ _ q => q
  | .bin _ _ _, X, c, sc, cs, x, g, h => no_test fun _ _ _ q => q
  | .neg _, X, c, sc, cs, x, g, h => no_test fun _ _ _ q => q
  | .ite _ _ _, X, c, sc, cs, x, g, h => no_test fun _ _ _ q => q
  | .sl _ _ _, X, c, sc, cs, x, g, h => no_test fun _ _ _ q => q
  | .rev _ _, X, c, sc, cs, x, g, h => no_test fun _ _ _ q => q
  | .tup _, X, c, sc, cs, x, g, h => no_test fun _ _ _ q => q
  | .lst _, X, c, sc, cs, x, g, h => no_test fun _ _ _ q => q
  | .dct _, X, c, sc, cs, x, g, h => no_test fun _ _ _ q => q
  | .lc _ _ _ _ _, X, c, sc, cs, x, g, h => no_test fun _ _ _ q => q
theorem sEs : ∀ (es : IEs) {X : Cx} {c : CkT} {sc : Scope} {cs : List Str} (xs : List Expr), Gd X c T sc cs → chEs c sc cs es xs = true → PA X xs (rdA X.K xs.length (wpEs T es))
  | .nil, X, c, sc, cs, [], g, h => a_nil
  | .cons e es, X, c, sc, cs, x :: xs, g, h => by
    unfold chEs at h
    rw [Bool.and_eq_true] at h
    exact a_cons (chE_star h.1) (sE e x g h.1) (sEs es xs g h.2)
  | .nil, X, c, sc, cs, _ :: _, g, h => (chEs_non h).elim
  | .cons _ _, X, c, sc, cs, [], g, h => (chEs_miss h).elim
theorem sO : ∀ (es : IEs) {X : Cx} {c : CkT} {sc : Scope} {cs : List Str} (x : Option Expr), Gd X c T sc cs → chO c sc cs es x = true → PO X x (rdO X.K (wpEs T es))
  | .nil, X, c, sc, cs, none, g, h => o_none
  | .cons e .nil, X, c, sc, cs, some x, g, h => by
    unfold chO at h
    exact o_some (sE e x g h)
  | .cons _ (.cons _ _), X, c, sc, cs, some _, g, h => (chO_two h).elim
  | .nil, X, c, sc, cs, some _, g, h => (chO_non h).elim
  | .cons _ _, X, c, sc, cs, none, g, h => (chO_miss h).elim
theorem sC : ∀ (es : IEs) {X : Cx} {c : CkT} {sc : Scope} {cs : List Str} (xs : List Expr), Gd X c T sc cs → chC c sc cs es xs = true → PTs X xs (rdT X.K (wpTs T es))
  | .nil, X, c, sc, cs, [], g, h => ts_nil
  | .cons e .nil, X, c, sc, cs, [x], g, h => by
    unfold chC at h
    exact ts_one (sT e x g h)
  | .cons _ (.cons _ _), X, c, sc, cs, [_], g, h => (chC_two h).elim
  | .cons _ _, X, c, sc, cs, _ :: _ :: _, g, h => (chC_many h).elim
  | .nil, X, c, sc, cs, _ :: _, g, h => (chC_non h).elim
  | .cons _ _, X, c, sc, cs, [], g, h => (chC_miss h).elim
theorem sI : ∀ (it : II) {X : Cx} {c : CkT} {sc : Scope} {cs : List Str} (tg iter : Expr) (tp : Bool), Gd X c T sc cs → chI c sc cs it tg iter tp = true → PI X tg iter (rdI X.K (WOf tp) (wpI T it))
  | .val e, X, c, sc, cs, tg, iter, tp, g, h => by
    unfold chI at h
    rw [Bool.and_eq_true] at h
    exact i_weak tp (i_val (sE e _ g h.2))
  | .rng es, X, c, sc, cs, tg, iter, tp, g, h => by
    cases iter <;> first | (unfold chI at h; cases h; done) | skip
    rename_i fn as ks p
    cases fn <;> first | (unfold chI at h; cases h; done) | skip
    cases ks <;> first | (unfold chI at h; cases h; done) | skip
    unfold chI at h
    simp only [Bool.and_eq_true, decide_eq_true_eq] at h
    obtain ⟨⟨⟨rfl, h2⟩, h3⟩, h4⟩ := h
    have st := chEs_star h4
    match as, h3, h4, st with
    | [x], _, h4, st =>
      exact i_weak tp (i_rng1 rfl (g.glo h2) g.rg (by simpa using st) (sEs es _ g h4))
    | [x, y], _, h4, st =>
      have st' : notStar x = true ∧ notStar y = true := by simpa using st
      exact i_weak tp (i_rng2 rfl (g.glo h2) g.rg st'.1 st'.2 (sEs es _ g h4))
    | [], h3, _, _ => simp at h3
    | _ :: _ :: _ :: _, h3, _, _ => simp at h3
  | .enm e, X, c, sc, cs, tg, iter, tp, g, h => by
    obtain ⟨es, k, p, q, a, r, rfl, rfl, rfl, h2, h4⟩ := chI_enm h
    exact i_enm (g.glo h2) g.en (chE_star h4) (sE e _ g h4)
  | .zip a b, X, c, sc, cs, tg, iter, tp, g, h => by
    obtain ⟨es, k, p, q, x, y, r, rfl, rfl, rfl, h2, h4, h5⟩ := chI_zip h
    exact i_zip (g.glo h2) g.zp (chE_star h4) (chE_star h5) (sE a _ g h4) (sE b _ g h5)
  | .itm _, X, c, sc, cs, tg, iter, tp, g, h => by unfold chI at h; cases h
end
end G


namespace G
open PySem PySem.Spec PyProof.Rows L2 RZ

theorem swapsSole_no {tg e : Expr} {l : Nat} {env : PySem.Env} (h : ∀ x p, tg ≠ .Name x p) : swapsWithSole [tg] e l env = pure false := by
  cases e <;> first | rfl | (cases tg <;> first | rfl | exact absurd rfl (h _ _))
theorem fm_lt {α β : Type} {f : α → Option β} : ∀ {l : List α} {x : α}, x ∈ l → f x = none → (l.filterMap f).length < l.length
  | [], _, h, _ => by cases h
  | y :: l, x, h, e => by
    have hle := List.length_filterMap_le f l
    rcases List.mem_cons.mp h with rfl | h
    · rw [List.filterMap_cons_none e, List.length_cons]; omega
    · have ih := fm_lt h e
      cases q : f y with
      | none => rw [List.filterMap_cons_none q, List.length_cons]; omega
      | some z => rw [List.filterMap_cons_some q, List.length_cons, List.length_cons]; omega
theorem swapped_no {tg e : Expr} {env : PySem.Env} (h : noSw env.scope tg e = true) : swappedStores [tg] e env = pure none := by
  cases tg <;> first | rfl | (cases h; done) | skip
  cases e <;> first | rfl | skip
  rename_i ts _ _ vs _ _
  unfold noSw at h
  rw [Bool.or_eq_true] at h
  rcases h with h | h
  · have h' : (ts.length == 2 || ts.length == 3) = false := by simpa using h
    unfold swappedStores
    simp only [h']
    rfl
  · obtain ⟨t, ht, hx⟩ := List.any_eq_true.mp h
    unfold swappedStores
    dsimp only
    split
    · rfl
    · split
      · rfl
      · rw [if_pos]
        rw [Bool.or_eq_true]
        left
        rw [bne_iff_ne]
        refine Nat.ne_of_lt (fm_lt ht ?_)
        cases t <;> first | rfl | skip
        rename_i x p
        have hx' : env.scope.names.lookup x ≠ some .local := by simpa using hx
        have hk : (env.kindOf x == some .local) = false := by
          have : env.kindOf x = env.scope.names.lookup x := rfl
          rw [this]
          simpa using hx'
        simp [hk]
theorem swaps_cell {x : Str} {px : Pos} {e : Expr} {l : Nat} {env : PySem.Env} (h : env.scope.names.lookup x ≠ some .local) : swapsWith e (some (.Name x px)) l env = pure false := by
  have hk : (env.kindOf x == some .local) = false := by
    have : env.kindOf x = env.scope.names.lookup x := rfl
    rw [this]
    simpa using h
  cases e <;> first | rfl | skip
  all_goals
    unfold swapsWith
    simp [hk]
section
variable {X : Cx} {K : PySem.W.Frag} {wa wb wd : Rho → Sto → QE → Prop} {x y z : Expr} {pos : Pos}
theorem ip_ok (o : Operator) (h : augOk o = true) : PIp X o (rd2 X.K (wpAug o)) := by
  intro pins s σ H x y v u R I r1 r2 ⟨dx, dy, S, Q, q1, q2, rs, hw, post⟩
  cases o with
  | Add =>
    cases dx <;> cases dy <;> first | exact hw.elim | skip
    rw [rv_int q1] at r1; rw [rv_int q2] at r2
    exact ip_add pins s σ H _ _ v u R I r1 r2 ⟨_, _, rfl, rfl, post.here rs hw (.i _)⟩
  | Sub =>
    cases dx <;> cases dy <;> first | exact hw.elim | skip
    rw [rv_int q1] at r1; rw [rv_int q2] at r2
    exact ip_sub pins s σ H _ _ v u R I r1 r2 ⟨_, _, rfl, rfl, post.here rs hw (.i _)⟩
  | _ => cases h
theorem assign_sub {v : Value} {env : PySem.Env} (h : notSlice y = true) : assign (.Subscript x y pos) env v = (do
      let ov ← holding [v] (eval x env)
      let iv ← holding [v, ov] (eval y env)
      standAt pos
      holding [v, ov, iv] (setItem ov iv v)
      release [v, ov, iv] []) := by cases y <;> first | rfl | cases h
theorem augStore_plain {ov iv new : Value} (h : notSlice y = true) : augStore y ov iv new = (do holding [new, ov, iv] (setItem ov iv new); release [new, ov, iv] []; pure .next) := by
  cases y <;> first | rfl | cases h
/-- the store's own Ext -/
theorem s_asg {i : Nat} {nm : Str} {px : Pos} (hN : X.N.Nodup) (hi : X.N[i]? = some nm) (hx : L2.Loc X.env.scope nm ∧ (X.fn nm = true ∨ X.env.scope.names.lookup nm = some .local)) (he : PE X x (rdE X.K wa)) (hs : swapsWith x (some (.Name nm px)) pos.line X.env = pure false) :
    PS X (.Assign [.Name nm px] x pos) (rdS X.K fun E ρ S => wa ρ S fun d S1 => E.nx (ρ.set i (some d)) S1) := by
  refine PS.imp (ps_set hN hi hx.1 he hs hx.2) fun D σ H ⟨ρ, S, E, e, rs, hw, nx, rt⟩ => ?_
  exact rdE_bind e rs hw fun d S1 v H1 hq x1 r1 rs1 => nx _ _ _ _ hq x1 ((e.mono (x1.tx rs)).set i r1) rs1
theorem s_asgT {t : D → Rho → Sto → (Rho → Prop) → Prop} {sl : List Nat} {es : List Expr} {k : Nat} {p : Pos} (he : PE X x (rdE X.K wa)) (hg : PG X (.Tuple es k p) (rdG X.K sl RepV t)) (hw : noSw X.env.scope (.Tuple es k p) x = true) :
    PS X (.Assign [.Tuple es k p] x pos) (rdS X.K fun E ρ S => wa ρ S fun d S1 => t d ρ S1 fun ρ' => E.nx ρ' S1) := by
  refine PS.imp (ps_asg he hg (swapsSole_no fun _ _ => nofun) (swapped_no hw)) fun D σ H ⟨ρ, S, E, e, rs, hw, nx, rt⟩ => ?_
  exact rdE_bind e rs hw fun d S1 v H1 hq x1 r1 rs1 => ⟨d, ρ, S1, _, r1, e.mono (x1.tx rs), rs1, hq, fun ρ' σ' hq' e' _ => nx _ _ _ _ hq' x1 e' rs1⟩
theorem s_set (hy : notSlice y = true) (ho : PE X x (rdE X.K wa)) (hi : PE X y (rdE X.K wb)) (he : PE X z (rdE X.K wd)) {p : Pos} :
    PS X (.Assign [.Subscript x y p] z pos) (rdS X.K fun E ρ S => wd ρ S fun v S1 => wa ρ S1 fun x S2 => wb ρ S2 fun y S3 => ∃ a xs k j, x = .ref a ∧ y = .int k ∧ S3 a = some (.lst xs) ∧ ixN xs.length k = some j ∧ E.nx ρ (sup S3 a (.lst (xs.set j v)))) := by
  refine PS.imp (ps_asg he (pg_sub ho hi set_ok fun v => assign_sub hy) (swapsSole_no fun _ _ => nofun) (swapped_no rfl)) fun D σ H ⟨ρ, S, E, e, rs, hw, nx, rt⟩ => ?_
  refine rdE_bind e rs hw fun d S1 v H1 hq x1 r1 rs1 => ?_
  have e1 := e.mono (x1.tx rs)
  refine rdE_bind e1 rs1 hq fun d2 S2 v2 H2 hq2 x2 r2 rs2 => ?_
  have e2 := e1.mono (x2.tx rs1)
  refine rdE_bind e2 rs2 hq2 fun d3 S3 v3 H3 ⟨a, xs, k, j, h1, h2, h3, h4, h5⟩ x3 r3 rs3 => ?_
  subst h1 h2
  have e3 := e2.mono (x3.tx rs2)
  rw [rv_ref (RepV.mono (x3.tx rs2) _ _ r2), rv_int r3]
  refine ⟨a, xs, k, j, d, S3, fun S4 => E.nx ρ S4, rfl, rfl, h3, h4, RepV.mono ((x2.trans x3).tx rs1) _ _ r1, rs3, h5, fun S4 H4 hq4 x4 rs4 => ?_⟩
  exact nx _ _ _ _ hq4 (((x1.trans x2).trans x3).trans x4) (e3.mono (x4.tx rs3)) rs4
theorem s_augN {i : Nat} {nm : Str} {px : Pos} {o : Operator} (ha : augOk o = true) (hN : X.N.Nodup) (hi : X.N[i]? = some nm) (hx : L2.Loc X.env.scope nm ∧ (X.fn nm = true ∨ X.env.scope.names.lookup nm = some .local)) (he : PE X x (rdE X.K wa)) :
    PS X (.AugAssign (.Name nm px) o x pos) (rdS X.K fun E ρ S => match ρ[i]? with
      | some (some d) => wa ρ S fun y S1 => wpAug o d y S1 fun z S2 => E.nx (ρ.set i (some z)) S2
      | _ => False) := by
  refine PS.imp (ps_aug hN hi hx.1 he (ip_ok o ha) hx.2) fun D σ H ⟨ρ, S, E, e, rs, hw, nx, rt⟩ => ?_
  replace hw : (match ρ[i]? with
      | some (some d) => wa ρ S fun y S1 => wpAug o d y S1 fun z S2 => E.nx (ρ.set i (some z)) S2
      | _ => False) := hw
  cases hd : ρ[i]? with
  | none => rw [hd] at hw; exact hw.elim
  | some od =>
    cases od with
    | none => rw [hd] at hw; exact hw.elim
    | some d =>
      rw [hd] at hw
      obtain ⟨v, hv, rv⟩ := e.get i d hd
      refine ⟨v, hv, rdE_bind e rs hw fun y S1 w H1 hq x1 r1 rs1 => ?_⟩
      refine ⟨d, y, S1, _, RepV.mono (x1.tx rs) _ _ rv, r1, rs1, hq, fun z S2 u H2 hq2 x2 r2 rs2 => ?_⟩
      exact nx _ _ _ _ hq2 (x1.trans x2) ((e.mono ((x1.trans x2).tx rs)).set i r2) rs2
theorem s_augS {o : Operator} {px : Pos} (ha : augOk o = true) (hy : notSlice y = true) (ho : PE X x (rdE X.K wa)) (hi : PE X y (rdE X.K wb)) (he : PE X z (rdE X.K wd)) :
    PS X (.AugAssign (.Subscript x y px) o z pos) (rdS X.K fun E ρ S => wa ρ S fun x S1 => wb ρ S1 fun y S2 => wpIx x y S2 fun u S3 => wd ρ S3 fun v S4 => wpAug o u v S4 fun z S5 =>
      ∃ p xs k j, x = .ref p ∧ y = .int k ∧ S5 p = some (.lst xs) ∧ ixN xs.length k = some j ∧ E.nx ρ (sup S5 p (.lst (xs.set j z)))) := by
  refine PS.imp (ps_augS ho hi get_ok he (ip_ok o ha) set_ok fun _ _ _ => augStore_plain hy) fun D σ H ⟨ρ, S, E, e, rs, hw, nx, rt⟩ => ?_
  refine rdE_bind e rs hw fun d S1 v H1 hq x1 r1 rs1 => ?_
  have e1 := e.mono (x1.tx rs)
  refine rdE_bind e1 rs1 hq fun d2 S2 v2 H2 hq2 x2 r2 rs2 => ?_
  have e2 := e1.mono (x2.tx rs1)
  refine ⟨d, d2, S2, _, RepV.mono (x2.tx rs1) _ _ r1, r2, rs2, hq2, fun d3 S3 v3 H3 hq3 x3 r3 rs3 => ?_⟩
  have e3 := e2.mono (x3.tx rs2)
  refine rdE_bind e3 rs3 hq3 fun d4 S4 v4 H4 hq4 x4 r4 rs4 => ?_
  have e4 := e3.mono (x4.tx rs3)
  refine ⟨d3, d4, S4, _, RepV.mono (x4.tx rs3) _ _ r3, r4, rs4, hq4, fun d5 S5 v5 H5 ⟨p, xs, k, j, h1, h2, h3, h4, h5⟩ x5 r5 rs5 => ?_⟩
  subst h1 h2
  rw [rv_ref r1, rv_int r2]
  refine ⟨p, xs, k, j, d5, S5, fun S6 => E.nx ρ S6, rfl, rfl, h3, h4, r5, rs5, h5, fun S6 H6 hq6 x6 rs6 => ?_⟩
  exact nx _ _ _ _ hq6 (((((x1.trans x2).trans x3).trans x4).trans x5).trans x6) ((e4.mono (x5.tx rs4)).mono (x6.tx rs5)) rs6
theorem s_exp (hs : notLC x = true) (he : PE X x (rdE X.K wa)) : PS X (.Expr x pos) (rdS X.K fun E ρ S => wa ρ S fun _ S1 => E.nx ρ S1) := by
  refine PS.imp (ps_expr he (swaps_no hs)) fun D σ H ⟨ρ, S, E, e, rs, hw, nx, rt⟩ => ?_
  exact rdE_bind e rs hw fun d S1 v H1 hq x1 r1 rs1 => nx _ _ _ _ hq x1 (e.mono (x1.tx rs)) rs1
theorem s_ret (he : PE X x (rdE X.K wa)) : PS X (.Return (some x) pos) (rdS X.K fun E ρ S => wa ρ S E.rt) := by
  refine PS.imp (ps_ret he) fun D σ H ⟨ρ, S, E, e, rs, hw, nx, rt⟩ => ⟨ρ, S, E.rt, e, rs, hw, rt⟩
theorem s_pas : PS X (.Pass pos) (rdS X.K fun E ρ S => E.nx ρ S) :=
  PS.imp ps_pass fun D σ H ⟨ρ, S, E, e, rs, hw, nx, rt⟩ => nx _ _ _ _ hw Ext.refl e rs
theorem ss_nil : PSs X [] (rdS X.K fun E ρ S => E.nx ρ S) :=
  PSs.imp pss_nil fun D σ H ⟨ρ, S, E, e, rs, hw, nx, rt⟩ => nx _ _ _ _ hw Ext.refl e rs
theorem ss_cons {st : Stmt} {r : List Stmt} {w1 w2 : DEnds → Rho → Sto → Prop} (h1 : PS X st (rdS X.K w1)) (h2 : PSs X r (rdS X.K w2)) : PSs X (st :: r) (rdS X.K fun E ρ S => w1 ⟨fun ρ1 S1 => w2 E ρ1 S1, E.rt⟩ ρ S) := by
  refine PSs.imp (pss_cons h1 h2) fun D σ H ⟨ρ, S, E, e, rs, hw, nx, rt⟩ => ?_
  refine ⟨ρ, S, _, e, rs, hw, fun ρ1 S1 σ1 H1 hq x1 e1 rs1 => ?_, rt⟩
  exact ⟨ρ1, S1, E, e1, rs1, hq, fun ρ2 S2 σ2 H2 hq2 x2 e2 rs2 => nx _ _ _ _ hq2 (x1.trans x2) e2 rs2, rt.trans x1⟩
theorem s_ifs {a b : List Stmt} {wt : Rho → Sto → (Bool → Sto → Prop) → Prop} {w1 w2 : DEnds → Rho → Sto → Prop} (ht : PT X x (rdT X.K wt)) (ha : PSs X a (rdS X.K w1)) (hb : PSs X b (rdS X.K w2)) :
    PS X (.If x a b pos) (rdS X.K fun E ρ S => wt ρ S fun k S1 => match k with
      | true => w1 E ρ S1
      | false => w2 E ρ S1) := by
  refine PS.imp (ps_if ht ha hb) fun D σ H ⟨ρ, S, E, e, rs, hw, nx, rt⟩ => ?_
  refine ⟨ρ, S, _, e, rs, hw, fun k S1 H1 hq x1 rs1 => ?_⟩
  cases k with
  | true => exact iteT ⟨ρ, S1, E, e.mono (x1.tx rs), rs1, hq, fun ρ2 S2 σ2 H2 hq2 x2 e2 rs2 => nx _ _ _ _ hq2 (x1.trans x2) e2 rs2, rt.trans x1⟩
  | false => exact iteF ⟨ρ, S1, E, e.mono (x1.tx rs), rs1, hq, fun ρ2 S2 σ2 H2 hq2 x2 e2 rs2 => nx _ _ _ _ hq2 (x1.trans x2) e2 rs2, rt.trans x1⟩
theorem s_whl {a : List Stmt} {wt : Rho → Sto → (Bool → Sto → Prop) → Prop} {w1 : DEnds → Rho → Sto → Prop} (hp : PassesOwn (model X.prog X.w) X.A X.env X.xe) (ht : PT X x (rdT X.K wt)) (ha : PSs X a (rdS X.K w1)) :
    PS X (.While x a [] pos) (rdS X.K fun E ρ S => whlRun (fun ρ1 S1 N => wt ρ1 S1 N) (fun ρ1 S1 N => w1 ⟨N, E.rt⟩ ρ1 S1) ρ S E.nx) := by
  refine PS.imp (ps_while hp ht ha) fun D σ H ⟨ρ, S, E, e, rs, ⟨W, ⟨m0, w0⟩, turn⟩, nx, rt⟩ => ?_
  refine ⟨fun m σ2 H2 => ∃ ρ2 S2, RepE X.K H2 ρ2 σ2 ∧ RepS X.K S2 H2 ∧ Ext H S H2 S2 ∧ W m ρ2 S2, ⟨m0, ρ, S, e, rs, Ext.refl, w0⟩, ?_⟩
  rintro m σ2 H2 ⟨ρ2, S2, e2, rs2, x2, w2⟩
  refine ⟨ρ2, S2, _, e2, rs2, turn m ρ2 S2 w2, fun k S3 H3 hq x3 rs3 => ?_⟩
  have e3 := e2.mono (x3.tx rs2)
  cases k with
  | true =>
    refine iteT ⟨fun σ' H' => ∃ m', m' < m ∧ ∃ ρ2 S2, RepE X.K H' ρ2 σ' ∧ RepS X.K S2 H' ∧ Ext H S H' S2 ∧ W m' ρ2 S2, fun σ' H' h => h, ρ2, S3, _, e3, rs3, hq, ?_, rt.trans (x2.trans x3)⟩
    rintro ρ4 S4 σ4 H4 ⟨m', hm, w4⟩ x4 e4 rs4
    exact ⟨m', hm, ρ4, S4, e4, rs4, (x2.trans x3).trans x4, w4⟩
  | false => exact iteF (nx _ _ _ _ hq (x2.trans x3) e3 rs3)
theorem s_for {W : PySem.W.Frag → Hp → D → V → Prop} {tg : Expr} {a : List Stmt} {sl : List Nat} {wi : Rho → Sto → (List D → (Sto → Prop) → Sto → Prop) → Prop} {t : D → Rho → Sto → (Rho → Prop) → Prop} {w1 : DEnds → Rho → Sto → Prop}
    (hp : PassesOwn (model X.prog X.w) X.A X.env X.xe) (hc : X.calm = true) (hi : PI X tg x (rdI X.K W wi)) (hg : PG X tg (rdG X.K sl W t)) (ha : PSs X a (rdS X.K w1)) (hs : ∀ v, foldedSetIterable x X.env v = pure v) :
    PS X (.For tg x a [] pos) (rdS X.K fun E ρ S => wi ρ S fun xs live S1 => forRun live (fun x ρ1 S2 N => t x ρ1 S2 fun ρ2 => w1 ⟨N, E.rt⟩ ρ2 S2) xs ρ S1 E.nx) := by
  refine PS.imp (ps_for hp hc hi hg ha hs) fun D σ H ⟨ρ, S, E, e, rs, hw, nx, rt⟩ => ?_
  refine ⟨ρ, S, _, e, rs, hw, fun xs live S1 H1 J hq x1 rs1 src hl => ?_⟩
  refine ⟨fun i m σ2 H2 => m = xs.length - i ∧ i ≤ xs.length ∧ ∃ ρ2 S2, RepE X.K H2 ρ2 σ2 ∧ RepS X.K S2 H2 ∧ Ext H1 S1 H2 S2 ∧ forRun live (fun x ρ1 S2 N => t x ρ1 S2 fun ρ2 => w1 ⟨N, E.rt⟩ ρ2 S2) (xs.drop i) ρ2 S2 E.nx, ⟨xs.length, by simp, Nat.zero_le _, ρ, S1, e.mono (x1.tx rs), rs1, Ext.refl, hq⟩, ?_⟩
  rintro i m σ2 H2 ⟨rfl, hi, ρ2, S2, e2, rs2, x2, run⟩
  by_cases hlt : i < xs.length
  · have hx : xs.drop i = xs[i] :: xs.drop (i + 1) := List.drop_eq_getElem_cons hlt
    rw [hx] at run
    obtain ⟨lv, step⟩ := run
    refine .inr ⟨src.goes i H2 S2 hlt x2 rs2 lv, fun σ' H' => i + 1 ≤ xs.length ∧ ∃ ρ2 S2, RepE X.K H' ρ2 σ' ∧ RepS X.K S2 H' ∧ Ext H1 S1 H' S2 ∧ forRun live (fun x ρ1 S2 N => t x ρ1 S2 fun ρ2 => w1 ⟨N, E.rt⟩ ρ2 S2) (xs.drop (i + 1)) ρ2 S2 E.nx, fun σ' H' h => ⟨xs.length - (i + 1), by omega, rfl, h⟩, fun x H3 hy => ?_⟩
    obtain ⟨d, hd, x3, rs3, rd⟩ := src.yields i H2 S2 x H3 hlt x2 rs2 lv hy
    rw [List.getElem?_eq_getElem hlt] at hd
    cases hd
    have x13 := x2.trans x3
    refine ⟨xs[i], ρ2, S2, _, rd, e2.mono (x3.tx rs2), rs3, step, fun ρ' σ' hq' e' _ => ?_⟩
    refine ⟨ρ', S2, _, e', rs3, hq', fun ρ4 S4 σ4 H4 hq4 x4 e4 rs4 => ⟨hlt, ρ4, S4, e4, rs4, x13.trans x4, hq4⟩, rt.trans (x1.trans x13)⟩
  · have ei : i = xs.length := by omega
    subst ei
    rw [List.drop_length] at run
    obtain ⟨lv, fin⟩ := run
    exact .inl ⟨src.stops H2 S2 x2 rs2 lv, nx _ _ _ _ fin (x1.trans x2) e2 rs2⟩
end
end G


namespace G
open PySem PySem.Spec PyProof.Rows L2 RZ

theorem nodup_ne {N : List Str} (h : N.Nodup) {i j : Nat} {x y : Str} (hi : N[i]? = some x) (hj : N[j]? = some y) (hij : i ≠ j) : x ≠ y := by
  intro e
  subst e
  obtain ⟨li, ei⟩ := List.getElem?_eq_some_iff.mp hi
  obtain ⟨lj, ej⟩ := List.getElem?_eq_some_iff.mp hj
  exact hij ((List.getElem_inj h).mp (ei.trans ej.symm))
section
variable {X : Cx} {c : CkT} {T : Tab} {sc : Scope} {cs : List Str}
theorem swapped2 (hk : X.env.scope.kind = .function) {x y : Str} {a b : Expr} {px py pt p2 : Pos} {k k2 : Nat} (hx : X.env.scope.names.lookup x = some .local) (hy : X.env.scope.names.lookup y = some .local) (hxy : x ≠ y) (hl : (py.line == px.line) = true)
    (h1 : [a, b].all notStar = true) (h2 : [a, b].all (foldedForSure 8) = false) (h3 : [a, b].all (constantsAlone 8) = false) :
    swappedStores [.Tuple [.Name x px, .Name y py] k pt] (.Tuple [a, b] k2 p2) X.env = pure (some [x, y]) := by
  have kx : X.env.kindOf x = some .local := hx
  have ky : X.env.kindOf y = some .local := hy
  have hb : X.env.blockKind = .function := by unfold PySem.Env.blockKind; rw [hk]; rfl
  have e : (y == x) = false := by simp [Ne.symm hxy]
  have hl' : (py.line == px.line) = true := hl
  unfold swappedStores
  simp only [hb, h2, h3, List.filterMap_cons, List.filterMap_nil, kx, ky, Expr.pos, List.head?, Option.map, Option.getD, hl', beq_self_eq_true, Bool.and_self, if_true, List.eraseDups_cons, List.eraseDups_nil, List.filter, e, Bool.not_false, List.length]
  rw [if_neg (by decide), if_neg ?_, if_neg (by decide), if_neg Bool.false_ne_true, if_neg Bool.false_ne_true]
  intro z
  obtain ⟨e, he, ht⟩ := List.any_eq_true.mp z
  have := List.all_eq_true.mp h1 e he
  cases e <;> first | (cases ht; done) | cases this
theorem swapped3 (hk : X.env.scope.kind = .function) {x y z : Str} {a b d : Expr} {px py pz pt p2 : Pos} {k k2 : Nat} (hx : X.env.scope.names.lookup x = some .local) (hy : X.env.scope.names.lookup y = some .local) (hz : X.env.scope.names.lookup z = some .local) (hxy : x ≠ y) (hxz : x ≠ z) (hyz : y ≠ z) (hl : (py.line == px.line) = true) (hl2 : (pz.line == px.line) = true)
    (h1 : [a, b, d].all notStar = true) (h2 : [a, b, d].all (foldedForSure 8) = false) (h3 : [a, b, d].all (constantsAlone 8) = false) :
    swappedStores [.Tuple [.Name x px, .Name y py, .Name z pz] k pt] (.Tuple [a, b, d] k2 p2) X.env = pure (some [x, y, z]) := by
  have kx : X.env.kindOf x = some .local := hx
  have ky : X.env.kindOf y = some .local := hy
  have kz : X.env.kindOf z = some .local := hz
  have hb : X.env.blockKind = .function := by unfold PySem.Env.blockKind; rw [hk]; rfl
  have e : (y == x) = false := by simp [Ne.symm hxy]
  have e2 : (z == x) = false := by simp [Ne.symm hxz]
  have e3 : (z == y) = false := by simp [Ne.symm hyz]
  unfold swappedStores
  simp only [hb, h2, h3, List.filterMap_cons, List.filterMap_nil, kx, ky, kz, Expr.pos, List.head?, Option.map, Option.getD, hl, hl2, beq_self_eq_true, Bool.and_self, if_true, List.eraseDups_cons, List.eraseDups_nil, List.filter, e, e2, e3, Bool.not_false, List.length]
  rw [if_neg (by decide), if_neg ?_, if_neg (by decide), if_neg Bool.false_ne_true, if_neg Bool.false_ne_true]
  intro z
  obtain ⟨e, he, ht⟩ := List.any_eq_true.mp z
  have := List.all_eq_true.mp h1 e he
  cases e <;> first | (cases ht; done) | cases this
theorem s_par2 {wes : Rho → Sto → (List D → Sto → Prop) → Prop} {i j : Nat} {x y : Str} {a b : Expr} {px py pt p2 pos : Pos} {k k2 : Nat} (g : Gd X c T sc cs) (hi : X.N[i]? = some x) (hj : X.N[j]? = some y) (hij : i ≠ j) (hx : X.env.scope.names.lookup x = some .local) (hy : X.env.scope.names.lookup y = some .local) (hl : (py.line == px.line) = true)
    (h1 : [a, b].all notStar = true) (h2 : [a, b].all (foldedForSure 8) = false) (h3 : [a, b].all (constantsAlone 8) = false) (ha : PA X [a, b] (rdA X.K 2 wes)) :
    PS X (.Assign [.Tuple [.Name x px, .Name y py] k pt] (.Tuple [a, b] k2 p2) pos) (rdS X.K fun E ρ S => wes ρ S fun ds S1 => match parSet ρ [i, j] ds with
      | some ρ' => E.nx ρ' S1
      | none => False) := by
  refine PS.imp (ps_par g.cl g.nd hi hj hij hx hy ha (swapped2 (by rw [g.sce]; exact g.kd) hx hy (nodup_ne g.nd hi hj hij) hl h1 h2 h3)) fun D σ H ⟨ρ, S, E, e, rs, hw, nx, rt⟩ => ?_
  refine ⟨ρ, S, _, e, rs, hw, fun ds S1 vs H1 hn hq x1 r1 rs1 => ?_⟩
  match ds, hn, hq with
  | [d1, d2], _, hq =>
    obtain ⟨v, w, rfl, q1, q2⟩ := rv2 r1
    exact ⟨v, w, rfl, nx _ _ _ _ hq x1 (((e.mono (x1.tx rs)).set i q1).set j q2) rs1⟩
theorem s_par3 {wes : Rho → Sto → (List D → Sto → Prop) → Prop} {i j l : Nat} {x y z : Str} {a b d : Expr} {px py pz pt p2 pos : Pos} {k k2 : Nat} (g : Gd X c T sc cs) (hi : X.N[i]? = some x) (hj : X.N[j]? = some y) (hk : X.N[l]? = some z) (hij : i ≠ j) (hil : i ≠ l) (hjl : j ≠ l) (hx : X.env.scope.names.lookup x = some .local) (hy : X.env.scope.names.lookup y = some .local) (hz : X.env.scope.names.lookup z = some .local) (hl : (py.line == px.line) = true) (hl2 : (pz.line == px.line) = true)
    (h1 : [a, b, d].all notStar = true) (h2 : [a, b, d].all (foldedForSure 8) = false) (h3 : [a, b, d].all (constantsAlone 8) = false) (ha : PA X [a, b, d] (rdA X.K 3 wes)) :
    PS X (.Assign [.Tuple [.Name x px, .Name y py, .Name z pz] k pt] (.Tuple [a, b, d] k2 p2) pos) (rdS X.K fun E ρ S => wes ρ S fun ds S1 => match parSet ρ [i, j, l] ds with
      | some ρ' => E.nx ρ' S1
      | none => False) := by
  refine PS.imp (ps_par3 g.cl g.nd hi hj hk hij hil hjl hx hy hz ha (swapped3 (by rw [g.sce]; exact g.kd) hx hy hz (nodup_ne g.nd hi hj hij) (nodup_ne g.nd hi hk hil) (nodup_ne g.nd hj hk hjl) hl hl2 h1 h2 h3)) fun D σ H ⟨ρ, S, E, e, rs, hw, nx, rt⟩ => ?_
  refine ⟨ρ, S, _, e, rs, hw, fun ds S1 vs H1 hn hq x1 r1 rs1 => ?_⟩
  match ds, hn, hq with
  | [d1, d2, d3], _, hq =>
    obtain ⟨u, r, rfl, q1, r1⟩ := r1.cons_inv
    obtain ⟨v, w, rfl, q2, q3⟩ := rv2 r1
    exact ⟨u, v, w, rfl, nx _ _ _ _ hq x1 ((((e.mono (x1.tx rs)).set i q1).set j q2).set l q3) rs1⟩
theorem s_par {wes : Rho → Sto → (List D → Sto → Prop) → Prop} {ns : List Nat} {ts vs : List Expr} {pt p2 pos : Pos} {k k2 : Nat} (g : Gd X c T sc cs) (h : swOk sc c.N ns ts vs = true) (ha : PA X vs (rdA X.K vs.length wes)) :
    PS X (.Assign [.Tuple ts k pt] (.Tuple vs k2 p2) pos) (rdS X.K fun E ρ S => wes ρ S fun ds S1 => match parSet ρ ns ds with
      | some ρ' => E.nx ρ' S1
      | none => False) := by
  unfold swOk at h
  simp only [Bool.and_eq_true, Bool.or_eq_true, decide_eq_true_eq, Bool.not_eq_true'] at h
  obtain ⟨⟨⟨⟨⟨⟨⟨l1, l2⟩, l3⟩, nd⟩, al⟩, st⟩, f1⟩, f2⟩ := h
  have h1 := st
  rcases l3 with l3 | l3
  · match ts, ns, vs, l1, l2, l3 with
    | [t1, t2], [i, j], [a, b], _, _, _ =>
      simp only [List.zip_cons_cons, List.zip_nil_right, List.all_cons, List.all_nil, Bool.and_true, Bool.and_eq_true] at al
      cases t1 <;> first | (exact absurd al.1 Bool.false_ne_true; done) | skip
      cases t2 <;> first | (exact absurd al.2 Bool.false_ne_true; done) | skip
      simp only [Bool.and_eq_true, decide_eq_true_eq, List.head?, Option.map, Option.getD, Expr.pos] at al
      obtain ⟨⟨⟨a1, a2⟩, _⟩, ⟨⟨b1, b2⟩, b3⟩⟩ := al
      have hij : i ≠ j := by simpa using nd
      exact s_par2 g (by rw [g.N]; exact a1) (by rw [g.N]; exact b1) hij (by rw [g.sce]; exact a2) (by rw [g.sce]; exact b2) b3 h1 f1 f2 ha
  · match ts, ns, vs, l1, l2, l3 with
    | [t1, t2, t3], [i, j, l], [a, b, d], _, _, _ =>
      simp only [List.zip_cons_cons, List.zip_nil_right, List.all_cons, List.all_nil, Bool.and_true, Bool.and_eq_true] at al
      cases t1 <;> first | (exact absurd al.1 Bool.false_ne_true; done) | skip
      cases t2 <;> first | (exact absurd al.2.1 Bool.false_ne_true; done) | skip
      cases t3 <;> first | (exact absurd al.2.2 Bool.false_ne_true; done) | skip
      simp only [Bool.and_eq_true, decide_eq_true_eq, List.head?, Option.map, Option.getD, Expr.pos] at al
      obtain ⟨⟨⟨a1, a2⟩, _⟩, ⟨⟨⟨b1, b2⟩, b3⟩, ⟨⟨c1, c2⟩, c3⟩⟩⟩ := al
      have hn : (i ≠ j ∧ i ≠ l) ∧ j ≠ l := by simpa using nd
      exact s_par3 g (by rw [g.N]; exact a1) (by rw [g.N]; exact b1) (by rw [g.N]; exact c1) hn.1.1 hn.1.2 hn.2 (by rw [g.sce]; exact a2) (by rw [g.sce]; exact b2) (by rw [g.sce]; exact c2) b3 c3 h1 f1 f2 ha
/-- name = [..], stored within -/
theorem s_lc {i : Nat} {nm : Str} {px : Pos} {v : Expr} {e : IE} {pos : Pos} (g : Gd X c T sc cs) (hi : c.N[i]? = some nm) (hb : swB sc nm px v = true) (h : chE c sc cs e v = true) :
    PS X (.Assign [.Name nm px] v pos) (rdS X.K fun E ρ S => wpE T e ρ S fun d S1 => E.nx (ρ.set i (some d)) S1) := by
  cases v <;> first | (cases hb; done) | skip
  rename_i elt gens scope p
  have h0 := h
  unfold swB at hb
  simp only [Bool.and_eq_true, decide_eq_true_eq, Bool.not_eq_true'] at hb
  obtain ⟨⟨hb1, hb2⟩, hb3⟩ := hb
  cases e <;> first | (unfold chE at h; cases h; done) | (obtain ⟨as, hs, _⟩ := sp_get h; obtain ⟨_, _, _, z⟩ := sp_call hs; cases z; done) | skip
  rename_i ws t it ifs e
  match gens, h with
  | [], h => exact (chE_lc0 h).elim
  | _ :: _ :: _, h => exact (chE_lc2 h).elim
  | [⟨tg, iter, tests, asy⟩], h =>
    unfold chE at h
    simp only [Bool.and_eq_true, decide_eq_true_eq] at h
    obtain ⟨⟨⟨⟨⟨⟨⟨rfl, hws⟩, hbk⟩, hsl⟩, hit⟩, ht⟩, hcc⟩, he⟩ := h
    have ok : BlkOk X.N X.env.scope scope (ownOf c.N scope) := by rw [g.N, g.sce]; exact blkOk_by hbk
    have hset := folded_plain (env := X.env) (chI_set hit)
    have hsl' : ∀ i ∈ slotsT t, i ∈ (ownOf c.N scope).map (·.2) := fun i hi => by
      have := List.all_eq_true.mp hsl i hi
      rw [← hws]
      simpa using this
    have PIx := sI it tg iter (isTp t) g hit
    have loc : X.env.scope.names.lookup nm = some .local := by rw [g.sce]; exact hb1
    subst hws
    have HG : ∀ (s : Shared) (H : Hp) (C : Addr) (cl : List (Str × Addr)) (fp : List Addr), PG (X.blk s H scope (compEnvC scope cl C X.env) fp) tg (rdG X.K (slotsT t) (WOf (isTp t)) (asgT t)) := fun s H C cl fp => tg_ok t tg (g.blk ok s H C cl fp) ht
    have HC : ∀ (s : Shared) (H : Hp) (C : Addr) (cl : List (Str × Addr)) (fp : List Addr), PTs (X.blk s H scope (compEnvC scope cl C X.env) fp) tests (rdT X.K (wpTs T ifs)) := fun s H C cl fp => sC ifs tests (g.blk ok s H C cl fp) hcc
    have HE : ∀ (s : Shared) (H : Hp) (C : Addr) (cl : List (Str × Addr)) (fp : List Addr), PE (X.blk s H scope (compEnvC scope cl C X.env) fp) elt (rdE X.K (wpE T e)) := fun s H C cl fp => sE e elt (g.blk ok s H C cl fp) he
    refine PS.imp (ps_setLc g.cl g.nd (by rw [g.N]; exact hi) loc (sw_true (by rw [g.sce]; exact g.kd) loc hb2 hb3) PIx ok HG HC HE hset) fun D σ H ⟨ρ, S, E, e1, rs, hw, nx, rt⟩ => ?_
    refine e_lc g.cl g.nd PIx ok hsl' HG HC HE hset σ H _ ⟨ρ, S, fun d S1 => E.nx (ρ.set i (some d)) S1, e1, rs, hw, fun d S1 v H1 hq x1 r1 rs1 => ?_⟩
    exact nx _ _ _ _ hq x1 ((e1.mono (x1.tx rs)).set i r1) rs1
end
end G


namespace G
open PySem PySem.Spec PyProof.Rows L2 RZ

theorem chSs_non {c : CkT} {sc : Scope} {cs : List Str} {x : Stmt} {z : List Stmt} (h : chSs c sc cs .nil (x :: z) = true) : False := by unfold chSs at h; cases h
theorem chSs_miss {c : CkT} {sc : Scope} {cs : List Str} {e : IS} {r : ISs} (h : chSs c sc cs (.cons e r) [] = true) : False := by unfold chSs at h; cases h
/-- an assignment has one target -/
theorem ch_asg {c : CkT} {sc : Scope} {cs : List Str} {t : IT} {e : IE} {st : Stmt} (h : chS c sc cs (.asg t e) st = true) : ∃ tg v p, st = .Assign [tg] v p := by
  cases st <;> first | (cases t <;> (unfold chS at h; cases h); done) | skip
  rename_i ts v p
  match ts, h with
  | [tg], _ => exact ⟨_, _, _, rfl⟩
  | [], h => cases t <;> (unfold chS at h; cases h)
  | a :: _ :: _, h => cases t <;> cases a <;> (unfold chS at h; cases h)
theorem ch_par {c : CkT} {sc : Scope} {cs : List Str} {ns : List Nat} {es : IEs} {st : Stmt} (h : chS c sc cs (.par ns es) st = true) : ∃ ts k p vs k2 p2 pos, st = .Assign [.Tuple ts k p] (.Tuple vs k2 p2) pos ∧ swOk sc c.N ns ts vs = true ∧ chEs c sc cs es vs = true := by
  cases st <;> first | (unfold chS at h; cases h; done) | skip
  rename_i ts v p
  match ts, h with
  | [], h => unfold chS at h; cases h
  | a :: _ :: _, h => cases a <;> (unfold chS at h; cases h)
  | [tg], h =>
    cases tg <;> first | (unfold chS at h; cases h; done) | skip
    cases v <;> first | (unfold chS at h; cases h; done) | skip
    unfold chS at h
    rw [Bool.and_eq_true] at h
    exact ⟨_, _, _, _, _, _, _, rfl, h.1, h.2⟩
theorem ch_set {c : CkT} {sc : Scope} {cs : List Str} {o i e : IE} {st : Stmt} (h : chS c sc cs (.set o i e) st = true) : ∃ x y p v pos, st = .Assign [.Subscript x y p] v pos ∧ notSlice y = true ∧ chE c sc cs o x = true ∧ chE c sc cs i y = true ∧ chE c sc cs e v = true := by
  cases st <;> first | (unfold chS at h; cases h; done) | skip
  rename_i ts v p
  match ts, h with
  | [], h => unfold chS at h; cases h
  | a :: _ :: _, h => cases a <;> (unfold chS at h; cases h)
  | [tg], h =>
    cases tg <;> first | (unfold chS at h; cases h; done) | skip
    unfold chS at h
    simp only [Bool.and_eq_true] at h
    exact ⟨_, _, _, _, _, rfl, h.1.1.1, h.1.1.2, h.1.2, h.2⟩
theorem ch_for {c : CkT} {sc : Scope} {cs : List Str} {t : IT} {it : II} {b : ISs} {st : Stmt} (h : chS c sc cs (.for t it b) st = true) : ∃ tg iter body p, st = .For tg iter body [] p ∧ chI c sc cs it tg iter (isTp t) = true ∧ chT c sc cs t tg = true ∧ chSs c sc cs b body = true := by
  cases st <;> first | (unfold chS at h; cases h; done) | skip
  rename_i tg iter body els p
  cases els <;> first | (unfold chS at h; cases h; done) | skip
  unfold chS at h
  simp only [Bool.and_eq_true] at h
  exact ⟨_, _, _, _, rfl, h.1.1, h.1.2, h.2⟩
theorem ch_whl {c : CkT} {sc : Scope} {cs : List Str} {d : IE} {b : ISs} {st : Stmt} (h : chS c sc cs (.whl d b) st = true) : ∃ t body p, st = .While t body [] p ∧ chE c sc cs d t = true ∧ chSs c sc cs b body = true := by
  cases st <;> first | (unfold chS at h; cases h; done) | skip
  rename_i tg body els p
  cases els <;> first | (unfold chS at h; cases h; done) | skip
  unfold chS at h
  simp only [Bool.and_eq_true] at h
  exact ⟨_, _, _, rfl, h.1, h.2⟩
theorem ch_ret {c : CkT} {sc : Scope} {cs : List Str} {e : IE} {st : Stmt} (h : chS c sc cs (.ret e) st = true) : ∃ x p, st = .Return (some x) p ∧ chE c sc cs e x = true := by
  cases st <;> first | (unfold chS at h; cases h; done) | skip
  rename_i o p
  cases o <;> first | (unfold chS at h; cases h; done) | skip
  unfold chS at h
  exact ⟨_, _, rfl, h⟩
theorem sAsg {X : Cx} {c : CkT} {T : Tab} {sc : Scope} {cs : List Str} (t : IT) (e : IE) (st : Stmt) (g : Gd X c T sc cs) (h : chS c sc cs (.asg t e) st = true) : PS X st (rdS X.K (wpS T (.asg t e))) := by
  obtain ⟨tg, v, p, rfl⟩ := ch_asg h
  cases t with
  | nm i =>
    cases tg <;> first | (unfold chS at h; cases h; done) | skip
    rename_i x px
    unfold chS at h
    simp only [Bool.and_eq_true, Bool.or_eq_true, decide_eq_true_eq] at h
    obtain ⟨⟨⟨h1, h2⟩, h3⟩, h4⟩ := h
    rcases h3 with (h3 | h3) | h3
    · exact s_asg g.nd (by rw [g.N]; exact h1) (g.loc h2) (sE e _ g h4) (swaps_no h3)
    · exact s_lc g h1 h3 h4
    · exact s_asg g.nd (by rw [g.N]; exact h1) (g.loc h2) (sE e _ g h4) (swaps_cell (by rw [g.sce]; exact h3))
  | tp ts =>
    cases tg <;> first | (unfold chS at h; cases h; done) | skip
    unfold chS at h
    simp only [Bool.and_eq_true] at h
    exact s_asgT (sE e _ g h.2) (soundT (.tp ts) _ g h.1.2) (by rw [g.sce]; exact h.1.1)
variable {T : Tab}
mutual
theorem sS : ∀ (s : IS) {X : Cx} {c : CkT} {sc : Scope} {cs : List Str} (st : Stmt), Gd X c T sc cs → chS c sc cs s st = true → PS X st (rdS X.K (wpS T s))
  | .asg t e, X, c, sc, cs, st, g, h => sAsg t e st g h
  | .par ns es, X, c, sc, cs, st, g, h => by
    obtain ⟨ts, k, p, vs, k2, p2, pos, rfl, h1, h2⟩ := ch_par h
    exact s_par g h1 (sEs es _ g h2)
  | .set o i e, X, c, sc, cs, st, g, h => by
    obtain ⟨x, y, p, v, pos, rfl, h1, h2, h3, h4⟩ := ch_set h
    exact s_set h1 (sE o _ g h2) (sE i _ g h3) (sE e _ g h4)
  | .att o f e, X, c, sc, cs, st, g, h => by
    unfold chS at h
    cases h
  | .augN i o e, X, c, sc, cs, st, g, h => by
    cases st <;> first | (unfold chS at h; cases h; done) | skip
    rename_i tg op v p
    cases tg <;> first | (unfold chS at h; cases h; done) | skip
    unfold chS at h
    simp only [Bool.and_eq_true, decide_eq_true_eq] at h
    obtain ⟨⟨⟨⟨h1, rfl⟩, h2⟩, h3⟩, h4⟩ := h
    exact s_augN h1 g.nd (by rw [g.N]; exact h2) (g.loc h3) (sE e _ g h4)
  | .augS a i o e, X, c, sc, cs, st, g, h => by
    cases st <;> first | (unfold chS at h; cases h; done) | skip
    rename_i tg op v p
    cases tg <;> first | (unfold chS at h; cases h; done) | skip
    unfold chS at h
    simp only [Bool.and_eq_true, decide_eq_true_eq] at h
    obtain ⟨⟨⟨⟨⟨h1, rfl⟩, h2⟩, h3⟩, h4⟩, h5⟩ := h
    exact s_augS h1 h2 (sE a _ g h3) (sE i _ g h4) (sE e _ g h5)
  | .exp e, X, c, sc, cs, st, g, h => by
    cases st <;> first | (unfold chS at h; cases h; done) | skip
    unfold chS at h
    rw [Bool.and_eq_true] at h
    exact s_exp h.1 (sE e _ g h.2)
  | .ret e, X, c, sc, cs, st, g, h => by
    obtain ⟨x, p, rfl, h1⟩ := ch_ret h
    exact s_ret (sE e _ g h1)
  | .ifs d a b, X, c, sc, cs, st, g, h => by
    cases st <;> first | (unfold chS at h; cases h; done) | skip
    unfold chS at h
    rw [Bool.and_eq_true, Bool.and_eq_true] at h
    exact s_ifs (sT d _ g h.1.1) (sSs a _ g h.1.2) (sSs b _ g h.2)
  | .for t it b, X, c, sc, cs, st, g, h => by
    obtain ⟨tg, iter, body, p, rfl, h1, h2, h3⟩ := ch_for h
    exact s_for g.never g.cl (sI it tg iter (isTp t) g h1) (tg_ok t tg g h2) (sSs b _ g h3) (folded_plain (chI_set h1))
  | .whl d b, X, c, sc, cs, st, g, h => by
    obtain ⟨t, body, p, rfl, h1, h2⟩ := ch_whl h
    exact s_whl g.never (sT d _ g h1) (sSs b _ g h2)
  | .pas, X, c, sc, cs, st, g, h => by
    cases st <;> first | (unfold chS at h; cases h; done) | skip
    exact s_pas
theorem sSs : ∀ (s : ISs) {X : Cx} {c : CkT} {sc : Scope} {cs : List Str} (st : List Stmt), Gd X c T sc cs → chSs c sc cs s st = true → PSs X st (rdS X.K (wpSs T s))
  | .nil, X, c, sc, cs, [], g, h => ss_nil
  | .cons e r, X, c, sc, cs, x :: xs, g, h => by
    unfold chSs at h
    rw [Bool.and_eq_true] at h
    exact ss_cons (w1 := wpS T e) (w2 := wpSs T r) (sS e _ g h.1) (sSs r _ g h.2)
  | .nil, X, c, sc, cs, _ :: _, g, h => (chSs_non h).elim
  | .cons _ _, X, c, sc, cs, [], g, h => (chSs_miss h).elim
end

section
variable {P : Program} {w : World} {K : PySem.W.Frag} {mg : Str → Option Value} {base : Heap}
/-- a def that may be called, k its room -/
structure FnAt (P : Program) (w : World) (K : PySem.W.Frag) (mg : Str → Option Value) (base : Heap) (k : Nat) (x : Str) (sp : DSp) : Prop where
  ex : ∃ f fd ps, FnOk P w K mg base C8.CX0 k f fd ps (spOf K ps.length sp) ∧ mg x = some (.ref f) ∧ PySem.W.keepIn K (.ref f) = true ∧ Binds K fd ps [] ∧ ∀ ds S Q, sp ds S Q → ds.length = ps.length
theorem FnAt.fnIn {X : Cx} {k : Nat} {x : Str} {sp : DSp} (h : FnAt X.prog X.w X.K X.mg X.base k x sp) (r : Room k X.A) : FnIn X x sp := by
  obtain ⟨f, fd, ps, a, b, c, d, e⟩ := h.ex
  exact ⟨k, f, fd, ps, a, r, b, c, d, e⟩
/-- the names that the module leaves to the built-ins -/
structure Bare (mg : Str → Option Value) : Prop where
  fr : ∀ x : Str, x ∈ bltN → mg x = none
theorem startD_rep {H : Hp} {ds : List D} {vs : List V} {N : List Str} (r : RepVs K H ds vs) : RepE K H (startD N.length ds) (L2.start N vs) := by
  have hl := r.length
  refine ⟨by unfold startD L2.start; simp [hl], fun i d e => ?_⟩
  unfold startD at e
  unfold L2.start
  by_cases hi : i < ds.length
  · rw [List.getElem?_append_left (by simpa using hi), List.getElem?_map] at e
    rw [List.getElem?_append_left (by simpa [hl] using hi), List.getElem?_map]
    cases q : ds[i]? with
    | none => rw [q] at e; cases e
    | some d' =>
      rw [q] at e
      cases e
      obtain ⟨v, hv, rv⟩ := r.get q
      exact ⟨v, by rw [hv]; rfl, rv⟩
  · rw [List.getElem?_append_right (by simpa using hi), List.getElem?_replicate] at e
    split at e <;> cases e
theorem fn_okG {k : Nat} {x qual : Str} {params : Arguments} {body : List Stmt} {scope : Scope} {f : Addr} {fd : FuncData} {N ps : List Str} {dvs : List V} {kws : List (Str × V)} (F : FunD K x qual params body scope dvs kws f fd) (S : FnScope N ps scope) (B : Bare mg)
    (T : Tab) (fs gs : List Str) (b : ISs) (sp : DSp) (hfs : ∀ (i : Nat) y, fs[i]? = some y → ∃ wy j, T.fs[i]? = some (y, wy) ∧ j ≤ k ∧ FnAt P w K mg base j y wy)
    (hgs : ∀ (i : Nat) y, gs[i]? = some y → ∃ d u v, T.gs[i]? = some (y, d) ∧ mg y = some u ∧ RelV v u ∧ ∀ H, RepV K H d v)
    (hch : chSs ⟨N, fs, gs⟩ scope (cellsOfS scope) b body = true)
    (hsp : ∀ ds S Q, sp ds S Q → ds.length = ps.length ∧ wpSs T b ⟨fun _ S' => Q .non S', Q⟩ (startD N.length ds) S) : FnOk P w K mg base C8.CX0 (k + 1) f fd ps (spOf K ps.length sp) := by
  refine F.ok S (fun vs H Q E ⟨ds, S0, Qd, hn, r, rs, hw, post⟩ => by rw [r.length]; exact hn) fun cdv A outer s H vs R E hr ⟨ds, S0, Q, hn, r, rs, hw, post⟩ => ?_
  have g : Gd (cxOf C8.CX0 P w K mg base N qual scope f cdv A outer s H E).nox ⟨N, fs, gs⟩ T scope (cellsOfS scope) :=
    { N := rfl, nd := S.nd, sce := rfl, kd := S.kind, cl := rfl, xe := rfl, fn := fun _ _ => rfl, rm := hr.mono (Nat.zero_le _),
      fs := fun i y h => by
        obtain ⟨wy, j, h1, h2, h3⟩ := hfs i y h
        exact ⟨wy, h1, FnAt.fnIn h3 (hr.mono h2)⟩
      gs := hgs, fr := B.fr }
  refine ⟨_, (sSs b body g hch).nox, startD N.length ds, S0, ⟨fun _ S' => Q .non S', Q⟩, startD_rep r, rs, (hsp _ _ _ hw).2, ?_, post⟩
  exact fun ρ' S' σ' H' hq x1 e1 rs1 => post .non S' .non H' hq x1 .n rs1
theorem fn_sound {k : Nat} {x qual : Str} {params : Arguments} {body : List Stmt} {scope : Scope} {f : Addr} {fd : FuncData} {N ps : List Str} {dvs : List V} {kws : List (Str × V)} (F : FunD K x qual params body scope dvs kws f fd) (hm : mg x = some (.ref f)) (hb : Binds K fd ps []) (S : FnScope N ps scope) (B : Bare mg)
    (T : Tab) (fs gs : List Str) (b : ISs) (sp : DSp) (hfs : ∀ (i : Nat) y, fs[i]? = some y → ∃ wy j, T.fs[i]? = some (y, wy) ∧ j ≤ k ∧ FnAt P w K mg base j y wy)
    (hgs : ∀ (i : Nat) y, gs[i]? = some y → ∃ d u v, T.gs[i]? = some (y, d) ∧ mg y = some u ∧ RelV v u ∧ ∀ H, RepV K H d v)
    (hch : chSs ⟨N, fs, gs⟩ scope (cellsOfS scope) b body = true)
    (hsp : ∀ ds S Q, sp ds S Q → ds.length = ps.length ∧ wpSs T b ⟨fun _ S' => Q .non S', Q⟩ (startD N.length ds) S) : FnAt P w K mg base (k + 1) x sp :=
  ⟨f, fd, ps, fn_okG F S B T fs gs b sp hfs hgs hch hsp, hm, F.kp, hb, fun ds S Q h => (hsp ds S Q h).1⟩
/-- the law's own def, at the script -/
theorem law_at {n : Nat} {sp : DSp} (h : ∀ (ns : List Int) (S : Sto) (Q : QE), ns.length ≤ n → n ≤ szL → (∀ S', Q (.bl true) S') → sp [.cl (ns.map D.int)] S Q) (hn : n ≤ szL) (H : Hp) (a : Addr) (ns : List Int) (hl : ns.length ≤ n) (hO : Only H) (hS : SqL K H a (ns.map V.int)) :
    spOf K 1 sp [.ref a] H (fun v _ => v = .bl true) fun _ _ _ => False := by
  have fz : FzL K H a (ns.map V.int) := by
    rcases hS with (h | h) | h
    · rcases hO a with e | ⟨o, xs, e⟩ <;> rw [e] at h <;> cases h
    · exact .inl h
    · exact .inr h
  refine ⟨[.cl (ns.map D.int)], fun _ => none, fun d _ => d = .bl true, rfl, .cons (by unfold RepV; exact ⟨by rw [List.length_map]; omega, a, _, rfl, fz, RepVs.of_ints ns⟩) .nil, (fun _ _ e => by cases e), h ns _ _ hl hn fun _ => rfl, ?_⟩
  intro d S' v H' hd x r rs
  subst hd
  exact rv_bl r
end
end G


namespace G
open PySem PySem.Spec PyProof.Rows L2 RZ

theorem sup_old {S : Sto} {a p : Addr} {c e : Cell} (h : S a = some c) (n : S p = none) : sup S p e a = some c := by
  rw [sup_ne (sto_ne h n)]; exact h
theorem sup_none {S : Sto} {a p : Addr} {e : Cell} (h : sup S p e a = none) : S a = none ∧ a ≠ p := by
  by_cases k : a = p
  · subst k; rw [sup_same] at h; cases h
  · rw [sup_ne k] at h; exact ⟨h, k⟩
/-- outside A nothing of the old is changed -/
def Fr (A : List Addr) (S S' : Sto) : Prop := ∀ a c, a ∉ A → S a = some c → S' a = some c
theorem Fr.refl {A : List Addr} {S : Sto} : Fr A S S := fun _ _ _ h => h
theorem Fr.trans {A : List Addr} {S S1 S2 : Sto} (a : Fr A S S1) (b : Fr A S1 S2) : Fr A S S2 := fun x c n h => b x c n (a x c n h)
theorem Fr.new {A : List Addr} {S : Sto} {p : Addr} {c : Cell} (n : S p = none) : Fr A S (sup S p c) := fun a c' _ h => sup_old h n
theorem Fr.put {A : List Addr} {S : Sto} {p : Addr} {c : Cell} (h : p ∈ A) : Fr A S (sup S p c) := fun a c' na h' => by
  rw [sup_ne fun e => na (by rw [e]; exact h)]; exact h'
theorem Fr.weak {A B : List Addr} {S S' : Sto} (a : Fr A S S') (h : ∀ x ∈ A, x ∈ B) : Fr B S S' := fun x c n e => a x c (fun z => n (h x z)) e
theorem Fr.at {A : List Addr} {S S' : Sto} (a : Fr A S S') {x : Addr} {c : Cell} (h : S x = some c) (n : x ∉ A) : S' x = some c := a x c n h
theorem Fr.non {A : List Addr} {S S' : Sto} (a : Fr A S S') {x : Addr} (n : x ∉ A) (h : S' x = none) : S x = none := by
  cases e : S x with
  | none => rfl
  | some c => rw [a x c n e] at h; cases h
/-- what stands at a new place may be written too -/
theorem Fr.put_new {A : List Addr} {S S1 : Sto} {p : Addr} {c : Cell} (a : Fr A S S1) (n : S p = none) : Fr A S (sup S1 p c) := fun x c' nx h => by
  rw [sup_ne (sto_ne h n)]; exact a x c' nx h
theorem forRun_inv {live : Sto → Prop} {step : D → Rho → Sto → (Rho → Sto → Prop) → Prop} {Q : Rho → Sto → Prop} (xs : List D) (I : Nat → Rho → Sto → Prop) {ρ : Rho} {S : Sto} (h0 : I 0 ρ S) (hl : ∀ i ρ S, i ≤ xs.length → I i ρ S → live S)
    (hs : ∀ (i : Nat) x ρ S N, xs[i]? = some x → I i ρ S → (∀ ρ' S', I (i + 1) ρ' S' → N ρ' S') → step x ρ S N) (he : ∀ ρ S, I xs.length ρ S → Q ρ S) : forRun live step xs ρ S Q := by
  have key : ∀ (ys : List D) (i : Nat) ρ S, ys = xs.drop i → i ≤ xs.length → I i ρ S → forRun live step ys ρ S Q := by
    intro ys
    induction ys with
    | nil =>
      intro i ρ S e hi h
      have : i = xs.length := by
        have := congrArg List.length e
        simp at this; omega
      subst this
      exact ⟨hl _ _ _ hi h, he _ _ h⟩
    | cons y ys ih =>
      intro i ρ S e hi h
      have hlt : i < xs.length := by
        have := congrArg List.length e
        simp at this; omega
      have e2 := List.drop_eq_getElem_cons hlt
      rw [e2] at e
      injection e with e3 e4
      refine ⟨hl _ _ _ hi h, hs i y ρ S _ (by rw [e3]; exact List.getElem?_eq_getElem hlt) h fun ρ' S' h' => ih (i + 1) ρ' S' e4 hlt h'⟩
  exact key xs 0 ρ S rfl (Nat.zero_le _) h0
theorem lcRun_inv {live : Sto → Prop} {step : D → Sto → (Option D → Sto → Prop) → Prop} {Q : List D → Sto → Prop} (xs : List D) (I : Nat → List D → Sto → Prop) {S : Sto} (h0 : I 0 [] S) (hl : ∀ i acc S, i ≤ xs.length → I i acc S → live S)
    (hs : ∀ (i : Nat) x acc S N, xs[i]? = some x → I i acc S → (∀ o S', I (i + 1) (match o with | some y => acc ++ [y] | none => acc) S' → N o S') → step x S N) (he : ∀ acc S, I xs.length acc S → Q acc S) : lcRun live step xs [] S Q := by
  have key : ∀ (ys : List D) (i : Nat) acc S, ys = xs.drop i → i ≤ xs.length → I i acc S → lcRun live step ys acc S Q := by
    intro ys
    induction ys with
    | nil =>
      intro i ρ S e hi h
      have : i = xs.length := by
        have := congrArg List.length e
        simp at this; omega
      subst this
      exact ⟨hl _ _ _ hi h, he _ _ h⟩
    | cons y ys ih =>
      intro i acc S e hi h
      have hlt : i < xs.length := by
        have := congrArg List.length e
        simp at this; omega
      have e2 := List.drop_eq_getElem_cons hlt
      rw [e2] at e
      injection e with e3 e4
      refine ⟨hl _ _ _ hi h, hs i y acc S _ (by rw [e3]; exact List.getElem?_eq_getElem hlt) h fun o S' h' => ih (i + 1) _ S' e4 hlt h'⟩
  exact key xs 0 [] S rfl (Nat.zero_le _) h0
/-- a comprehension that changes nothing -/
theorem lcRun_map {live : Sto → Prop} {step : D → Sto → (Option D → Sto → Prop) → Prop} {Q : List D → Sto → Prop} {S : Sto} (f : D → Option D) (hl : live S) : ∀ (xs : List D) (acc : List D), (∀ x ∈ xs, ∀ N, N (f x) S → step x S N) → Q (acc ++ xs.filterMap f) S → lcRun live step xs acc S Q
  | [], acc, _, q => ⟨hl, by simpa using q⟩
  | x :: xs, acc, hs, q => ⟨hl, hs x List.mem_cons_self _ (lcRun_map f hl xs _ (fun y hy => hs y (List.mem_cons_of_mem _ hy)) (by
      cases e : f x with
      | none => rw [List.filterMap_cons_none e] at q; exact q
      | some z => rw [List.filterMap_cons_some e] at q; simpa using q))⟩
theorem atN {α : Type} {xs : List α} {i : Nat} : atI xs (i : Int) = xs[i]? := by
  unfold atI ixN
  rw [if_pos (by omega)]
  by_cases h : i < xs.length
  · rw [if_pos (by omega)]; rfl
  · rw [if_neg (by omega), List.getElem?_eq_none (by omega)]; rfl
theorem atP {α : Type} {xs : List α} {i : Int} (h : 0 ≤ i) : atI xs i = xs[i.toNat]? := by
  obtain ⟨n, rfl⟩ := Int.eq_ofNat_of_zero_le h
  exact atN
theorem ix_ref {S : Sto} {a : Addr} {xs : List D} {i : Int} {v : D} {Q : QE} (h : S a = some (.lst xs)) (e : atI xs i = some v) (q : Q v S) : wpIx (.ref a) (.int i) S Q := ⟨xs, i, v, h, rfl, e, q⟩
theorem ix_tup {S : Sto} {xs : List D} {i : Int} {v : D} {Q : QE} (e : atI xs i = some v) (q : Q v S) : wpIx (.tup xs) (.int i) S Q := ⟨xs, i, v, rfl, rfl, e, q⟩
theorem ix_cl {S : Sto} {xs : List D} {i : Int} {v : D} {Q : QE} (e : atI xs i = some v) (q : Q v S) : wpIx (.cl xs) (.int i) S Q := ⟨xs, i, v, rfl, rfl, e, q⟩

theorem at0 {α : Type} {a : α} {l : List α} : atI (a :: l) 0 = some a := atN (i := 0)
theorem at1 {α : Type} {a b : α} {l : List α} : atI (a :: b :: l) 1 = some b := atN (i := 1)
theorem at2 {α : Type} {a b c : α} {l : List α} : atI (a :: b :: c :: l) 2 = some c := atN (i := 2)
theorem at3 {α : Type} {a b c d : α} {l : List α} : atI (a :: b :: c :: d :: l) 3 = some d := atN (i := 3)
theorem ix0 {n : Nat} : ixN (n + 1) 0 = some 0 := by unfold ixN; rw [if_pos (by omega), if_pos (by omega)]; rfl
theorem ix1 {n : Nat} : ixN (n + 1 + 1) 1 = some 1 := by unfold ixN; rw [if_pos (by omega), if_pos (by omega)]; rfl
theorem ix2 {n : Nat} : ixN (n + 1 + 1 + 1) 2 = some 2 := by unfold ixN; rw [if_pos (by omega), if_pos (by omega)]; rfl
theorem ix3 {n : Nat} : ixN (n + 1 + 1 + 1 + 1) 3 = some 3 := by unfold ixN; rw [if_pos (by omega), if_pos (by omega)]; rfl
theorem cmul_l {i j : Int} (h0 : -(2 ^ 64) < i) (h1 : i < 2 ^ 64) : CMul i j ∨ CMulW i j := .inl (.inl ⟨h0, h1⟩)
theorem cmul_r {i j : Int} (h0 : -(2 ^ 64) < j) (h1 : j < 2 ^ 64) : CMul i j ∨ CMulW i j := .inl (.inr ⟨h0, h1⟩)
theorem cdiv_ok {i j : Int} (h0 : 0 < j) (h1 : j < 2 ^ 64) : CDivW i j := by
  refine ⟨h0, ?_⟩
  have : j.natAbs < 2 ^ 64 := by omega
  have h2 : j.natAbs ≠ 0 := by omega
  have := (Nat.log2_lt h2).mpr this
  omega
theorem cpow_ok {i j : Int} (h0 : 0 ≤ j) (h1 : j ≤ 1000000) (h2 : -(2 ^ 64) < i) (h3 : i < 2 ^ 64) : CPow i j := ⟨h0, h1, by omega⟩
theorem eq_ii {neg : Bool} {i j : Int} {S : Sto} {Q : QE} : wpEq neg (.int i) (.int j) S Q = Q (.bl (ng neg (decide (i = j)))) S := rfl
theorem ng_f {b : Bool} : ng false b = b := rfl
theorem ng_t {b : Bool} : ng true b = !b := rfl
theorem fm_map {α : Type} (ts : List α) (h : α → D) (f : D → Option D) (g : α → Option D) (e : ∀ t ∈ ts, f (h t) = g t) : (ts.map h).filterMap f = ts.filterMap g := by
  induction ts with
  | nil => rfl
  | cons t ts ih =>
    rw [List.map_cons, List.filterMap_cons, List.filterMap_cons, e t List.mem_cons_self, ih fun x hx => e x (List.mem_cons_of_mem _ hx)]
/-- a comprehension without a test -/
theorem lcRun_all {live : Sto → Prop} {step : D → Sto → (Option D → Sto → Prop) → Prop} {Q : List D → Sto → Prop} {S : Sto} {α : Type} (ts : List α) (h f : α → D) (hl : live S) (hs : ∀ x ∈ ts, ∀ N, N (some (f x)) S → step (h x) S N) (q : Q (ts.map f) S) : lcRun live step (ts.map h) [] S Q := by
  have key : ∀ (ts : List α) (acc : List D), (∀ x ∈ ts, ∀ N, N (some (f x)) S → step (h x) S N) → Q (acc ++ ts.map f) S → lcRun live step (ts.map h) acc S Q := by
    intro ts
    induction ts with
    | nil => intro acc _ q; exact ⟨hl, by simpa using q⟩
    | cons t ts ih => intro acc hs q; exact ⟨hl, hs t List.mem_cons_self _ (ih _ (fun y hy => hs y (List.mem_cons_of_mem _ hy)) (by simpa using q))⟩
  exact key ts [] hs (by simpa using q)
/-- .. with a test -/
theorem lcRun_if {live : Sto → Prop} {step : D → Sto → (Option D → Sto → Prop) → Prop} {Q : List D → Sto → Prop} {S : Sto} {α : Type} (ts : List α) (h f : α → D) (p : α → Bool) (hl : live S) (hs : ∀ x ∈ ts, ∀ N : Option D → Sto → Prop, N (if p x then some (f x) else none) S → step (h x) S N) (q : Q ((ts.filter p).map f) S) : lcRun live step (ts.map h) [] S Q := by
  have key : ∀ (ts : List α) (acc : List D), (∀ x ∈ ts, ∀ N : Option D → Sto → Prop, N (if p x then some (f x) else none) S → step (h x) S N) → Q (acc ++ (ts.filter p).map f) S → lcRun live step (ts.map h) acc S Q := by
    intro ts
    induction ts with
    | nil => intro acc _ q; exact ⟨hl, by simpa using q⟩
    | cons t ts ih =>
      intro acc hs q
      refine ⟨hl, hs t List.mem_cons_self _ (ih _ (fun y hy => hs y (List.mem_cons_of_mem _ hy)) ?_)⟩
      by_cases e : p t = true
      · rw [List.filter_cons_of_pos e] at q; simpa [e] using q
      · rw [List.filter_cons_of_neg e] at q; simpa [e] using q
  exact key ts [] hs (by simpa using q)
theorem asg_nm {i : Nat} {d : D} {ρ : Rho} {S : Sto} {Q : Rho → Prop} : asgT (.nm i) d ρ S Q = Q (ρ.set i (some d)) := rfl
theorem asg_tp {ts : ITs} {xs : List D} {ρ : Rho} {S : Sto} {Q : Rho → Prop} : asgT (.tp ts) (.tup xs) ρ S Q = asgTs ts xs ρ S Q := rfl
theorem asg_nil {ρ : Rho} {S : Sto} {Q : Rho → Prop} : asgTs .nil [] ρ S Q = Q ρ := propext ⟨fun h => h.2, fun h => ⟨rfl, h⟩⟩
theorem asg_cons {t : IT} {ts : ITs} {d : D} {r : List D} {ρ : Rho} {S : Sto} {Q : Rho → Prop} : asgTs (.cons t ts) (d :: r) ρ S Q = asgT t d ρ S fun ρ' => asgTs ts r ρ' S Q := rfl
end G


namespace G
open PySem PySem.Spec PyProof.Rows L2 RZ

/-- a tuple of ints -/
def rowI (r : List Int) : D := .tup (r.map D.int)
theorem toPys_ints : ∀ r : List Int, toPys (r.map D.int) = r.map PyData.int
  | [] => rfl
  | i :: r => by rw [List.map_cons, List.map_cons]; unfold toPys; rw [toPys_ints r]; unfold toPy; rfl
theorem pure_ints : ∀ r : List Int, pureDs (r.map D.int) = true
  | [] => rfl
  | i :: r => by rw [List.map_cons]; unfold pureDs; rw [pure_ints r]; unfold pureD; rfl
theorem toPy_row (r : List Int) : toPy (rowI r) = .tuple (r.map PyData.int) := by unfold rowI toPy; rw [toPys_ints]
theorem pure_row (r : List Int) : pureD (rowI r) = true := by unfold rowI pureD; exact pure_ints r
theorem toPys_rows : ∀ rs : List (List Int), toPys (rs.map rowI) = rs.map fun r => PyData.tuple (r.map PyData.int)
  | [] => rfl
  | r :: rs => by rw [List.map_cons, List.map_cons]; unfold toPys; rw [toPys_rows rs, toPy_row]
theorem pure_rows : ∀ rs : List (List Int), pureDs (rs.map rowI) = true
  | [] => rfl
  | r :: rs => by rw [List.map_cons]; unfold pureDs; rw [pure_rows rs, pure_row]; rfl
theorem li_lay : ∀ ns : List Int, PyData.canLayAll0 (ns.map PyData.int) = true
  | [] => rfl
  | _ :: r => by simp [PyData.canLayAll0, PyData.canLay0, li_lay r]
theorem li_dep : ∀ ns : List Int, PyData.depthAll (ns.map PyData.int) = 0
  | [] => rfl
  | _ :: r => by simp [PyData.depthAll, PyData.depth, li_dep r]
theorem depth_row (r : List Int) : (PyData.tuple (r.map PyData.int)).depth = 1 := by
  unfold PyData.depth; rw [li_dep]
theorem shaped_row (r : List Int) : SeqAt.shaped (.tuple (r.map PyData.int)) = true := by
  simp [SeqAt.shaped, PyData.canLay0, PyData.depth, li_lay, li_dep]
theorem lay_rows : ∀ rs : List (List Int), PyData.canLayAll0 (rs.map fun r => PyData.tuple (r.map PyData.int)) = true ∧ PyData.depthAll (rs.map fun r => PyData.tuple (r.map PyData.int)) ≤ 1
  | [] => ⟨rfl, Nat.zero_le _⟩
  | r :: rs => by
    obtain ⟨a, b⟩ := lay_rows rs
    rw [List.map_cons]
    constructor
    · simp [PyData.canLayAll0, PyData.canLay0, li_lay, a]
    · simp only [PyData.depthAll, depth_row]; omega
theorem shaped_rowsL (rs : List (List Int)) : SeqAt.shaped (.list (rs.map fun r => PyData.tuple (r.map PyData.int))) = true := by
  obtain ⟨a, b⟩ := lay_rows rs
  simp [SeqAt.shaped, PyData.canLay0, PyData.depth, a]
  omega
theorem shaped_rowsT (rs : List (List Int)) : SeqAt.shaped (.tuple (rs.map fun r => PyData.tuple (r.map PyData.int))) = true := by
  obtain ⟨a, b⟩ := lay_rows rs
  simp [SeqAt.shaped, PyData.canLay0, PyData.depth, a]
  omega
theorem eqv_ints : ∀ (r t : List Int), PyData.eqvAll (r.map PyData.int) (t.map PyData.int) = decide (r = t)
  | [], [] => by simp [PyData.eqvAll]
  | [], _ :: _ => by simp [PyData.eqvAll]
  | _ :: _, [] => by simp [PyData.eqvAll]
  | i :: r, j :: t => by
    simp only [List.map_cons, PyData.eqvAll, PyData.eqv, eqv_ints r t]
    by_cases h : i = j <;> by_cases h' : r = t <;> simp [h, h']
theorem eqv_row (r t : List Int) : PyData.eqv (.tuple (r.map PyData.int)) (.tuple (t.map PyData.int)) = decide (r = t) := by
  simp only [PyData.eqv, eqv_ints]
theorem any_rows (r : List Int) : ∀ rs : List (List Int), ((rs.map fun r => PyData.tuple (r.map PyData.int)).any fun z => PyData.eqv z (.tuple (r.map PyData.int))) = decide (r ∈ rs)
  | [] => by simp
  | t :: rs => by
    rw [List.map_cons, List.any_cons, any_rows r rs, eqv_row]
    by_cases h : t = r
    · subst h; simp
    · by_cases h' : r ∈ rs
      · simp [h']
      · simp [h, h', Ne.symm h]
theorem any_ints (i : Int) : ∀ ns : List Int, ((ns.map PyData.int).any fun z => PyData.eqv z (.int i)) = decide (i ∈ ns)
  | [] => by simp
  | t :: rs => by
    rw [List.map_cons, List.any_cons, any_ints i rs]
    simp only [PyData.eqv]
    by_cases h : t = i
    · subst h; simp
    · by_cases h' : i ∈ rs
      · simp [h']
      · simp [h, h', Ne.symm h]
section
variable {S : Sto} {Q : QE} {neg : Bool}
theorem in_rows {a : Addr} {rs : List (List Int)} {r : List Int} (h : S a = some (.lst (rs.map rowI))) (q : Q (.bl (ng neg (decide (r ∈ rs)))) S) : wpIn neg (rowI r) (.ref a) S Q := by
  refine ⟨_, _, _, h, isPy_toPy S _ (pure_row r), isPys_toPys S _ (pure_rows rs), by rw [toPy_row]; exact shaped_row r, by rw [toPys_rows]; exact shaped_rowsL rs, ?_⟩
  rw [toPy_row, toPys_rows, any_rows]
  exact q
theorem in_rowsT {rs : List (List Int)} {r : List Int} (q : Q (.bl (ng neg (decide (r ∈ rs)))) S) : wpIn neg (rowI r) (.tup (rs.map rowI)) S Q := by
  refine ⟨_, _, isPy_toPy S _ (pure_row r), isPys_toPys S _ (pure_rows rs), by rw [toPy_row]; exact shaped_row r, by rw [toPys_rows]; exact shaped_rowsT rs, ?_⟩
  rw [toPy_row, toPys_rows, any_rows]
  exact q
theorem in_intsT {ns : List Int} {i : Int} (q : Q (.bl (ng neg (decide (i ∈ ns)))) S) : wpIn neg (.int i) (.tup (ns.map D.int)) S Q := by
  refine ⟨_, _, isPy_toPy S (.int i) rfl, isPys_toPys S _ (pure_ints ns), by simp [toPy, SeqAt.shaped, PyData.canLay0, PyData.depth], by rw [toPys_ints]; exact shaped_row ns, ?_⟩
  rw [toPys_ints]
  have : toPy (.int i) = .int i := rfl
  rw [this, any_ints]
  exact q
/-- xs == [], xs != [] -/
theorem eq_nil {a b : Addr} {rs : List (List Int)} (h : S a = some (.lst (rs.map rowI))) (h' : S b = some (.lst [])) (q : Q (.bl (ng neg rs.isEmpty)) S) : wpEq neg (.ref a) (.ref b) S Q := by
  refine ⟨.list (toPys (rs.map rowI)), .list [], ⟨_, h, isPys_toPys S _ (pure_rows rs)⟩, ⟨_, h', rfl⟩, by rw [toPys_rows]; exact shaped_rowsL rs, by simp [SeqAt.shaped, PyData.canLay0, PyData.canLayAll0, PyData.depth, PyData.depthAll], ?_⟩
  rw [toPys_rows]
  cases rs with
  | nil => simpa [PyData.eqv, PyData.eqvAll] using q
  | cons r rs => simpa [PyData.eqv, PyData.eqvAll] using q
end
theorem alike_ints : ∀ r t : List Int, PySem.W.alikeAll (r.map PyData.int) (t.map PyData.int) = true
  | [], _ => by simp [PySem.W.alikeAll]
  | _ :: _, [] => by simp [PySem.W.alikeAll]
  | i :: r, j :: t => by
    rw [List.map_cons, List.map_cons, PySem.W.alikeAll, PySem.W.alike, alike_ints r t]; rfl
theorem sort_rows {rs : List (List Int)} (h : ∀ r ∈ rs, r ≠ []) : SortD (rs.map rowI) where
  pure := fun x hx => by
    obtain ⟨r, _, rfl⟩ := List.mem_map.mp hx
    exact pure_row r
  alike := fun d hd d' hd' => by
    obtain ⟨x, hx, rfl⟩ := List.mem_map.mp hd
    obtain ⟨y, hy, rfl⟩ := List.mem_map.mp hd'
    obtain ⟨r, _, rfl⟩ := List.mem_map.mp hx
    obtain ⟨t, _, rfl⟩ := List.mem_map.mp hy
    rw [toPy_row, toPy_row, PySem.W.alike]
    exact alike_ints r t
  kind := .inl fun d hd => by
    obtain ⟨x, hx, rfl⟩ := List.mem_map.mp hd
    obtain ⟨r, hr, rfl⟩ := List.mem_map.mp hx
    rw [toPy_row]
    cases r with
    | nil => exact absurd rfl (h _ hr)
    | cons i r => exact ⟨_, _, rfl⟩
  deep := fun x hx => by
    obtain ⟨r, _, rfl⟩ := List.mem_map.mp hx
    rw [toPy_row, depth_row]; decide
theorem sort_ints (ns : List Int) : SortD (ns.map D.int) where
  pure := fun x hx => by
    obtain ⟨r, _, rfl⟩ := List.mem_map.mp hx
    rfl
  alike := fun d hd d' hd' => by
    obtain ⟨x, hx, rfl⟩ := List.mem_map.mp hd
    obtain ⟨y, hy, rfl⟩ := List.mem_map.mp hd'
    obtain ⟨r, _, rfl⟩ := List.mem_map.mp hx
    obtain ⟨t, _, rfl⟩ := List.mem_map.mp hy
    simp [toPy, PySem.W.alike]
  kind := .inr fun d hd => by
    obtain ⟨x, hx, rfl⟩ := List.mem_map.mp hd
    obtain ⟨r, hr, rfl⟩ := List.mem_map.mp hx
    constructor <;> simp [toPy]
  deep := fun x hx => by
    obtain ⟨r, _, rfl⟩ := List.mem_map.mp hx
    simp [toPy, PyData.depth]
/-- what is sorted is there, as it was -/
theorem sorted_map {α : Type} (f : α → D) (g : D → α) (hg : ∀ x, f (g (f x)) = f x) (hgf : ∀ x, g (f x) = x) (xs : List α) : ∃ ys : List α, (xs.map f).mergeSort leD = ys.map f ∧ ys.Perm xs := by
  have pm := List.mergeSort_perm (xs.map f) leD
  refine ⟨((xs.map f).mergeSort leD).map g, ?_, ?_⟩
  · rw [List.map_map]
    conv => lhs; rw [← List.map_id ((xs.map f).mergeSort leD)]
    refine List.map_congr_left fun d hd => ?_
    obtain ⟨x, _, rfl⟩ := List.mem_map.mp (pm.mem_iff.mp hd)
    exact (hg x).symm
  · have := pm.map g
    rw [List.map_map] at this
    refine this.trans ?_
    have e : g ∘ f = id := funext hgf
    rw [e, List.map_id]
theorem map_erase {α β : Type} (f : α → β) : ∀ (l : List α) (i : Nat), (l.map f).eraseIdx i = (l.eraseIdx i).map f
  | [], _ => by simp
  | _ :: _, 0 => by simp
  | x :: l, i + 1 => by simp [map_erase f l i]
end G


namespace K48
open PySem PySem.Spec PyProof.Rows L2 G
def top (i : Nat) : Stmt := PySem.Challenge.pw_ringcover_k48_ties_counted.main.body.getD i (.Pass ⟨0, 0, 0, 0⟩)
/-- beside(web, place); names 0:web 1:place 2:found 3:a 4:b 5:fee -/
def s_beside_0 : IS := (.ret (.bi .tuple (.cons (.bi .sorted (.cons (.var 2) .nil)) .nil)))
def k_beside_0 : ISs := .cons s_beside_0 .nil
def s_beside_1 : IS := (.asg (.nm 2) (.bin .Add (.lc [3, 4, 5] (.tp (.cons (.nm 3) (.cons (.nm 4) (.cons (.nm 5) .nil)))) (.val (.ix (.var 0) (.cI 1))) (.cons (.cmp .Eq (.var 4) (.var 1)) .nil) (.var 3)) (.lc [3, 4, 5] (.tp (.cons (.nm 3) (.cons (.nm 4) (.cons (.nm 5) .nil)))) (.val (.ix (.var 0) (.cI 1))) (.cons (.cmp .Eq (.var 3) (.var 1)) .nil) (.var 4))))
def k_beside_1 : ISs := .cons s_beside_1 k_beside_0
def b_beside : ISs := k_beside_1
def n_beside : List Str := ["web", "place", "found", "a", "b", "fee"]
def p_beside : List Str := ["web", "place"]
def f_beside : List Str := []
def g_beside : List Str := []
/-- evenly(web); names 0:web 1:counts 2:place -/
def s_evenly_0 : IS := (.ret .cN)
def k_evenly_0 : ISs := .cons s_evenly_0 .nil
def s_evenly_1 : IS := (.ret (.ix (.var 1) (.cI 0)))
def k_evenly_1 : ISs := .cons s_evenly_1 .nil
def s_evenly_2 : IS := (.ifs (.cmp .NotEq (.bi .min1 (.cons (.var 1) .nil)) (.bi .max1 (.cons (.var 1) .nil))) k_evenly_0 .nil)
def k_evenly_2 : ISs := .cons s_evenly_2 k_evenly_1
def s_evenly_3 : IS := (.asg (.nm 1) (.lc [2] (.nm 2) (.rng (.cons (.ix (.var 0) (.cI 0)) .nil)) .nil (.bi .len (.cons (.call 0 (.cons (.var 0) (.cons (.var 2) .nil))) .nil))))
def k_evenly_3 : ISs := .cons s_evenly_3 k_evenly_2
def b_evenly : ISs := k_evenly_3
def n_evenly : List Str := ["web", "counts", "place"]
def p_evenly : List Str := ["web"]
def f_evenly : List Str := ["beside"]
def g_evenly : List Str := []
/-- _law_hand(_law_script, _law_k); names 0:_law_script 1:_law_k 2:_law_cell 3:_law_primes 4:_law_own -/
def s_l_hand_0 : IS := (.ret (.lst (.cons (.var 4) (.cons (.bin .Mod (.bin .Pow (.bin .Add (.bin .Add (.bin .Mod (.var 2) (.ix (.var 3) (.bin .Mod (.var 1) (.cI 8)))) (.bin .Mult (.cI 31) (.var 1))) (.cI 7)) (.cI 5)) (.cI 2147483647)) (.cons (.cI 0) .nil)))))
def k_l_hand_0 : ISs := .cons s_l_hand_0 .nil
def s_l_hand_1 : IS := (.asg (.nm 4) (.bin .Mult (.bin .Mod (.bi .abs (.cons (.var 2) .nil)) (.bin .Mult (.bin .Pow (.cI 10) (.cI 60)) (.bin .Pow (.cI 10) (.cI 30)))) (.bi .int (.cons (.cmp .GtE (.bi .abs (.cons (.var 2) .nil)) (.bin .Pow (.cI 10) (.cI 18))) .nil))))
def k_l_hand_1 : ISs := .cons s_l_hand_1 k_l_hand_0
def s_l_hand_2 : IS := (.asg (.nm 3) (.lst (.cons (.cI 2147483629) (.cons (.cI 2147483587) (.cons (.cI 2147483579) (.cons (.cI 2147483563) (.cons (.cI 2147483549) (.cons (.cI 2147483543) (.cons (.cI 2147483497) (.cons (.cI 2147483489) .nil))))))))))
def k_l_hand_2 : ISs := .cons s_l_hand_2 k_l_hand_1
def s_l_hand_3 : IS := (.asg (.nm 2) (.ite (.cmp .Lt (.var 1) (.bi .len (.cons (.var 0) .nil))) (.ix (.var 0) (.var 1)) (.cI 0)))
def k_l_hand_3 : ISs := .cons s_l_hand_3 k_l_hand_2
def b_l_hand : ISs := k_l_hand_3
def n_l_hand : List Str := ["_law_script", "_law_k", "_law_cell", "_law_primes", "_law_own"]
def p_l_hand : List Str := ["_law_script", "_law_k"]
def f_l_hand : List Str := []
def g_l_hand : List Str := []
/-- _law_take(_law_hand_here, _law_many); names 0:_law_hand_here 1:_law_many 2:_law_digit -/
def s_l_take_0 : IS := (.ret (.var 2))
def k_l_take_0 : ISs := .cons s_l_take_0 .nil
def s_l_take_1 : IS := (.set (.var 0) (.cI 0) (.bin .FloorDiv (.ix (.var 0) (.cI 0)) (.var 1)))
def k_l_take_1 : ISs := .cons s_l_take_1 k_l_take_0
def s_l_take_2 : IS := (.asg (.nm 2) (.bin .Mod (.ix (.var 0) (.cI 0)) (.var 1)))
def k_l_take_2 : ISs := .cons s_l_take_2 k_l_take_1
def s_l_take_3 : IS := (.ret (.bin .Mod (.bin .FloorDiv (.bin .Mod (.bin .Pow (.ix (.var 0) (.cI 1)) (.cI 2)) (.cI 2147483629)) (.cI 64)) (.var 1)))
def k_l_take_3 : ISs := .cons s_l_take_3 .nil
def s_l_take_4 : IS := (.set (.var 0) (.cI 1) (.bin .Mod (.bin .Add (.bin .Add (.bin .Mult (.ix (.var 0) (.cI 1)) (.cI 48271)) (.bin .Mult (.cI 7919) (.ix (.var 0) (.cI 2)))) (.cI 1)) (.cI 2147483647)))
def k_l_take_4 : ISs := .cons s_l_take_4 k_l_take_3
def s_l_take_5 : IS := (.set (.var 0) (.cI 2) (.bin .Add (.ix (.var 0) (.cI 2)) (.cI 1)))
def k_l_take_5 : ISs := .cons s_l_take_5 k_l_take_4
def s_l_take_6 : IS := (.ifs (.cmp .Gt (.ix (.var 0) (.cI 0)) (.cI 0)) k_l_take_2 .nil)
def k_l_take_6 : ISs := .cons s_l_take_6 k_l_take_5
def b_l_take : ISs := k_l_take_6
def n_l_take : List Str := ["_law_hand_here", "_law_many", "_law_digit"]
def p_l_take : List Str := ["_law_hand_here", "_law_many"]
def f_l_take : List Str := []
def g_l_take : List Str := []
/-- _law_order(_law_hand_here, _law_many); names 0:_law_hand_here 1:_law_many 2:_law_left 3:_law_k -/
def s_l_order_0 : IS := (.ret (.lc [3] (.nm 3) (.rng (.cons (.var 1) .nil)) .nil (.mt .popAt (.var 2) (.cons (.call 0 (.cons (.var 0) (.cons (.bi .len (.cons (.var 2) .nil)) .nil))) .nil))))
def k_l_order_0 : ISs := .cons s_l_order_0 .nil
def s_l_order_1 : IS := (.asg (.nm 2) (.sp .listrange (.cons (.var 1) .nil)))
def k_l_order_1 : ISs := .cons s_l_order_1 k_l_order_0
def b_l_order : ISs := k_l_order_1
def n_l_order : List Str := ["_law_hand_here", "_law_many", "_law_left", "_law_k"]
def p_l_order : List Str := ["_law_hand_here", "_law_many"]
def f_l_order : List Str := ["_law_take"]
def g_l_order : List Str := []
/-- _law_ring_pairs(_law_hand_here); names 0:_law_hand_here 1:_law_many 2:_law_share 3:_law_found 4:_law_step 5:_law_k -/
def s_l_ring_pairs_0 : IS := (.asg (.nm 3) (.bin .Add (.var 3) (.lc [5] (.nm 5) (.rng (.cons (.var 1) .nil)) .nil (.tup (.cons (.var 5) (.cons (.bin .Mod (.bin .Add (.var 5) (.var 4)) (.var 1)) .nil))))))
def k_l_ring_pairs_0 : ISs := .cons s_l_ring_pairs_0 .nil
def s_l_ring_pairs_1 : IS := (.ifs (.cmp .Eq (.call 0 (.cons (.var 0) (.cons (.var 2) .nil))) (.cI 0)) k_l_ring_pairs_0 .nil)
def k_l_ring_pairs_1 : ISs := .cons s_l_ring_pairs_1 .nil
def s_l_ring_pairs_2 : IS := (.ret (.tup (.cons (.var 1) (.cons (.var 3) .nil))))
def k_l_ring_pairs_2 : ISs := .cons s_l_ring_pairs_2 .nil
def s_l_ring_pairs_3 : IS := (.for (.nm 4) (.rng (.cons (.cI 1) (.cons (.bin .Add (.bin .FloorDiv (.var 1) (.cI 2)) (.cI 1)) .nil))) k_l_ring_pairs_1)
def k_l_ring_pairs_3 : ISs := .cons s_l_ring_pairs_3 k_l_ring_pairs_2
def s_l_ring_pairs_4 : IS := (.asg (.nm 3) (.lst .nil))
def k_l_ring_pairs_4 : ISs := .cons s_l_ring_pairs_4 k_l_ring_pairs_3
def s_l_ring_pairs_5 : IS := (.asg (.nm 2) (.bin .Add (.cI 1) (.call 0 (.cons (.var 0) (.cons (.cI 4) .nil)))))
def k_l_ring_pairs_5 : ISs := .cons s_l_ring_pairs_5 k_l_ring_pairs_4
def s_l_ring_pairs_6 : IS := (.asg (.nm 1) (.bin .Add (.cI 3) (.call 0 (.cons (.var 0) (.cons (.cI 18) .nil)))))
def k_l_ring_pairs_6 : ISs := .cons s_l_ring_pairs_6 k_l_ring_pairs_5
def b_l_ring_pairs : ISs := k_l_ring_pairs_6
def n_l_ring_pairs : List Str := ["_law_hand_here", "_law_many", "_law_share", "_law_found", "_law_step", "_law_k"]
def p_l_ring_pairs : List Str := ["_law_hand_here"]
def f_l_ring_pairs : List Str := ["_law_take"]
def g_l_ring_pairs : List Str := []
/-- _law_side_pairs(_law_hand_here); names 0:_law_hand_here 1:_law_half 2:_law_share 3:_law_found 4:_law_step 5:_law_k -/
def s_l_side_pairs_0 : IS := (.asg (.nm 3) (.bin .Add (.var 3) (.lc [5] (.nm 5) (.rng (.cons (.var 1) .nil)) .nil (.tup (.cons (.var 5) (.cons (.bin .Add (.var 1) (.bin .Mod (.bin .Add (.var 5) (.var 4)) (.var 1))) .nil))))))
def k_l_side_pairs_0 : ISs := .cons s_l_side_pairs_0 .nil
def s_l_side_pairs_1 : IS := (.ifs (.cmp .Eq (.call 0 (.cons (.var 0) (.cons (.var 2) .nil))) (.cI 0)) k_l_side_pairs_0 .nil)
def k_l_side_pairs_1 : ISs := .cons s_l_side_pairs_1 .nil
def s_l_side_pairs_2 : IS := (.ret (.tup (.cons (.bin .Mult (.cI 2) (.var 1)) (.cons (.var 3) .nil))))
def k_l_side_pairs_2 : ISs := .cons s_l_side_pairs_2 .nil
def s_l_side_pairs_3 : IS := (.for (.nm 4) (.rng (.cons (.var 1) .nil)) k_l_side_pairs_1)
def k_l_side_pairs_3 : ISs := .cons s_l_side_pairs_3 k_l_side_pairs_2
def s_l_side_pairs_4 : IS := (.asg (.nm 3) (.lst .nil))
def k_l_side_pairs_4 : ISs := .cons s_l_side_pairs_4 k_l_side_pairs_3
def s_l_side_pairs_5 : IS := (.asg (.nm 2) (.bin .Add (.cI 1) (.call 0 (.cons (.var 0) (.cons (.cI 3) .nil)))))
def k_l_side_pairs_5 : ISs := .cons s_l_side_pairs_5 k_l_side_pairs_4
def s_l_side_pairs_6 : IS := (.asg (.nm 1) (.bin .Add (.cI 1) (.call 0 (.cons (.var 0) (.cons (.cI 10) .nil)))))
def k_l_side_pairs_6 : ISs := .cons s_l_side_pairs_6 k_l_side_pairs_5
def b_l_side_pairs : ISs := k_l_side_pairs_6
def n_l_side_pairs : List Str := ["_law_hand_here", "_law_half", "_law_share", "_law_found", "_law_step", "_law_k"]
def p_l_side_pairs : List Str := ["_law_hand_here"]
def f_l_side_pairs : List Str := ["_law_take"]
def g_l_side_pairs : List Str := []
/-- _law_heap_pairs(_law_hand_here); names 0:_law_hand_here 1:_law_size 2:_law_heaps 3:_law_found 4:_law_k 5:_law_other -/
def s_l_heap_pairs_0 : IS := (.asg (.nm 3) (.bin .Add (.var 3) (.lc [5] (.nm 5) (.rng (.cons (.bin .Add (.var 4) (.cI 1)) (.cons (.bin .Add (.bin .Sub (.var 4) (.bin .Mod (.var 4) (.var 1))) (.var 1)) .nil))) .nil (.tup (.cons (.var 4) (.cons (.var 5) .nil))))))
def k_l_heap_pairs_0 : ISs := .cons s_l_heap_pairs_0 .nil
def s_l_heap_pairs_1 : IS := (.ret (.tup (.cons (.bin .Mult (.var 1) (.var 2)) (.cons (.var 3) .nil))))
def k_l_heap_pairs_1 : ISs := .cons s_l_heap_pairs_1 .nil
def s_l_heap_pairs_2 : IS := (.for (.nm 4) (.rng (.cons (.bin .Mult (.var 1) (.var 2)) .nil)) k_l_heap_pairs_0)
def k_l_heap_pairs_2 : ISs := .cons s_l_heap_pairs_2 k_l_heap_pairs_1
def s_l_heap_pairs_3 : IS := (.asg (.nm 3) (.lst .nil))
def k_l_heap_pairs_3 : ISs := .cons s_l_heap_pairs_3 k_l_heap_pairs_2
def s_l_heap_pairs_4 : IS := (.asg (.nm 2) (.bin .Add (.cI 1) (.call 0 (.cons (.var 0) (.cons (.bi .max2 (.cons (.cI 1) (.cons (.bin .FloorDiv (.cI 20) (.var 1)) .nil))) .nil)))))
def k_l_heap_pairs_4 : ISs := .cons s_l_heap_pairs_4 k_l_heap_pairs_3
def s_l_heap_pairs_5 : IS := (.asg (.nm 1) (.bin .Add (.cI 1) (.call 0 (.cons (.var 0) (.cons (.cI 7) .nil)))))
def k_l_heap_pairs_5 : ISs := .cons s_l_heap_pairs_5 k_l_heap_pairs_4
def b_l_heap_pairs : ISs := k_l_heap_pairs_5
def n_l_heap_pairs : List Str := ["_law_hand_here", "_law_size", "_law_heaps", "_law_found", "_law_k", "_law_other"]
def p_l_heap_pairs : List Str := ["_law_hand_here"]
def f_l_heap_pairs : List Str := ["_law_take"]
def g_l_heap_pairs : List Str := []
/-- _law_crossed_pairs(_law_hand_here); names 0:_law_hand_here 1:_law_half 2:_law_step 3:_law_found 4:_law_k -/
def s_l_crossed_pairs_0 : IS := (.asg (.nm 3) (.bin .Add (.var 3) (.lst (.cons (.tup (.cons (.var 4) (.cons (.bin .Mod (.bin .Add (.var 4) (.cI 1)) (.var 1)) .nil))) (.cons (.tup (.cons (.var 4) (.cons (.bin .Add (.var 1) (.var 4)) .nil))) (.cons (.tup (.cons (.bin .Add (.var 1) (.var 4)) (.cons (.bin .Add (.var 1) (.bin .Mod (.bin .Add (.var 4) (.var 2)) (.var 1))) .nil))) .nil))))))
def k_l_crossed_pairs_0 : ISs := .cons s_l_crossed_pairs_0 .nil
def s_l_crossed_pairs_1 : IS := (.ret (.tup (.cons (.bin .Mult (.cI 2) (.var 1)) (.cons (.var 3) .nil))))
def k_l_crossed_pairs_1 : ISs := .cons s_l_crossed_pairs_1 .nil
def s_l_crossed_pairs_2 : IS := (.for (.nm 4) (.rng (.cons (.var 1) .nil)) k_l_crossed_pairs_0)
def k_l_crossed_pairs_2 : ISs := .cons s_l_crossed_pairs_2 k_l_crossed_pairs_1
def s_l_crossed_pairs_3 : IS := (.asg (.nm 3) (.lst .nil))
def k_l_crossed_pairs_3 : ISs := .cons s_l_crossed_pairs_3 k_l_crossed_pairs_2
def s_l_crossed_pairs_4 : IS := (.asg (.nm 2) (.bin .Add (.cI 1) (.call 0 (.cons (.var 0) (.cons (.bin .FloorDiv (.bin .Sub (.var 1) (.cI 1)) (.cI 2)) .nil)))))
def k_l_crossed_pairs_4 : ISs := .cons s_l_crossed_pairs_4 k_l_crossed_pairs_3
def s_l_crossed_pairs_5 : IS := (.asg (.nm 1) (.bin .Add (.cI 3) (.call 0 (.cons (.var 0) (.cons (.cI 8) .nil)))))
def k_l_crossed_pairs_5 : ISs := .cons s_l_crossed_pairs_5 k_l_crossed_pairs_4
def b_l_crossed_pairs : ISs := k_l_crossed_pairs_5
def n_l_crossed_pairs : List Str := ["_law_hand_here", "_law_half", "_law_step", "_law_found", "_law_k"]
def p_l_crossed_pairs : List Str := ["_law_hand_here"]
def f_l_crossed_pairs : List Str := ["_law_take"]
def g_l_crossed_pairs : List Str := []
/-- _law_low_first(_law_a, _law_b); names 0:_law_a 1:_law_b -/
def s_l_low_first_0 : IS := (.ret (.tup (.cons (.bi .min2 (.cons (.var 0) (.cons (.var 1) .nil))) (.cons (.bi .max2 (.cons (.var 0) (.cons (.var 1) .nil))) .nil))))
def k_l_low_first_0 : ISs := .cons s_l_low_first_0 .nil
def b_l_low_first : ISs := k_l_low_first_0
def n_l_low_first : List Str := ["_law_a", "_law_b"]
def p_l_low_first : List Str := ["_law_a", "_law_b"]
def f_l_low_first : List Str := []
def g_l_low_first : List Str := []
/-- _law_switched(_law_hand_here, _law_pairs); names 0:_law_hand_here 1:_law_pairs 2:_law_one 3:_law_other 4:_law_turn 5:_law_a 6:_law_b 7:_law_c 8:_law_d 9:_law_made 10:_law_pair -/
def s_l_switched_0 : IS := (.ret (.var 1))
def k_l_switched_0 : ISs := .cons s_l_switched_0 .nil
def s_l_switched_1 : IS := (.ret (.bin .Add (.lc [10] (.nm 10) (.val (.var 1)) (.cons (.cmp .NotIn (.var 10) (.tup (.cons (.var 2) (.cons (.var 3) .nil)))) .nil) (.var 10)) (.var 9)))
def k_l_switched_1 : ISs := .cons s_l_switched_1 .nil
def s_l_switched_2 : IS := (.ifs (.or (.cmp .Lt (.sp .lenset (.cons (.lst (.cons (.var 5) (.cons (.var 6) (.cons (.var 7) (.cons (.var 8) .nil))))) .nil)) (.cI 4)) (.or (.cmp .In (.ix (.var 9) (.cI 0)) (.var 1)) (.cmp .In (.ix (.var 9) (.cI 1)) (.var 1)))) k_l_switched_0 .nil)
def k_l_switched_2 : ISs := .cons s_l_switched_2 k_l_switched_1
def s_l_switched_3 : IS := (.asg (.nm 9) (.lst (.cons (.call 1 (.cons (.var 5) (.cons (.var 7) .nil))) (.cons (.call 1 (.cons (.var 6) (.cons (.var 8) .nil))) .nil))))
def k_l_switched_3 : ISs := .cons s_l_switched_3 k_l_switched_2
def s_l_switched_4 : IS := (.asg (.tp (.cons (.nm 7) (.cons (.nm 8) .nil))) (.ite (.cmp .Eq (.var 4) (.cI 0)) (.var 3) (.rev 0 (.var 3))))
def k_l_switched_4 : ISs := .cons s_l_switched_4 k_l_switched_3
def s_l_switched_5 : IS := (.asg (.tp (.cons (.nm 5) (.cons (.nm 6) .nil))) (.var 2))
def k_l_switched_5 : ISs := .cons s_l_switched_5 k_l_switched_4
def s_l_switched_6 : IS := (.asg (.nm 4) (.call 0 (.cons (.var 0) (.cons (.cI 2) .nil))))
def k_l_switched_6 : ISs := .cons s_l_switched_6 k_l_switched_5
def s_l_switched_7 : IS := (.asg (.tp (.cons (.nm 2) (.cons (.nm 3) .nil))) (.tup (.cons (.ix (.var 1) (.call 0 (.cons (.var 0) (.cons (.bi .len (.cons (.var 1) .nil)) .nil)))) (.cons (.ix (.var 1) (.call 0 (.cons (.var 0) (.cons (.bi .len (.cons (.var 1) .nil)) .nil)))) .nil))))
def k_l_switched_7 : ISs := .cons s_l_switched_7 k_l_switched_6
def b_l_switched : ISs := k_l_switched_7
def n_l_switched : List Str := ["_law_hand_here", "_law_pairs", "_law_one", "_law_other", "_law_turn", "_law_a", "_law_b", "_law_c", "_law_d", "_law_made", "_law_pair"]
def p_l_switched : List Str := ["_law_hand_here", "_law_pairs"]
def f_l_switched : List Str := ["_law_take", "_law_low_first"]
def g_l_switched : List Str := []
/-- _law_web(_law_hand_here); names 0:_law_hand_here 1:_law_way 2:_law_turns 3:_law_menu 4:_law_many 5:_law_pairs 6:_law_turn 7:_law_order_here 8:_law_ties 9:_law_a 10:_law_b -/
def s_l_web_0 : IS := (.asg (.tp (.cons (.nm 4) (.cons (.nm 5) .nil))) (.call 1 (.cons (.var 0) .nil)))
def k_l_web_0 : ISs := .cons s_l_web_0 .nil
def s_l_web_1 : IS := (.asg (.tp (.cons (.nm 4) (.cons (.nm 5) .nil))) (.call 2 (.cons (.var 0) .nil)))
def k_l_web_1 : ISs := .cons s_l_web_1 .nil
def s_l_web_2 : IS := (.asg (.tp (.cons (.nm 4) (.cons (.nm 5) .nil))) (.call 3 (.cons (.var 0) .nil)))
def k_l_web_2 : ISs := .cons s_l_web_2 .nil
def s_l_web_3 : IS := (.asg (.tp (.cons (.nm 4) (.cons (.nm 5) .nil))) (.call 4 (.cons (.var 0) .nil)))
def k_l_web_3 : ISs := .cons s_l_web_3 .nil
def s_l_web_4 : IS := (.ifs (.cmp .Lt (.var 1) (.cI 6)) k_l_web_2 k_l_web_3)
def k_l_web_4 : ISs := .cons s_l_web_4 .nil
def s_l_web_5 : IS := (.ifs (.cmp .Lt (.var 1) (.cI 4)) k_l_web_1 k_l_web_4)
def k_l_web_5 : ISs := .cons s_l_web_5 .nil
def s_l_web_6 : IS := (.asg (.nm 5) (.call 6 (.cons (.var 0) (.cons (.var 5) .nil))))
def k_l_web_6 : ISs := .cons s_l_web_6 .nil
def s_l_web_7 : IS := (.exp (.mt .append (.var 8) (.cons (.tup (.cons (.var 9) (.cons (.var 10) (.cons (.ix (.lst (.cons (.cI 0) (.cons (.cI 1) (.cons (.call 0 (.cons (.var 0) (.cons (.cI 4) .nil))) (.cons (.call 0 (.cons (.var 0) (.cons (.bin .Add (.bin .Pow (.cI 10) (.cI 9)) (.cI 1)) .nil))) (.cons (.bin .Pow (.cI 10) (.cI 9)) .nil)))))) (.var 3)) .nil)))) .nil)))
def k_l_web_7 : ISs := .cons s_l_web_7 .nil
def s_l_web_8 : IS := (.ret (.tup (.cons (.var 4) (.cons (.bi .tuple (.cons (.var 8) .nil)) .nil))))
def k_l_web_8 : ISs := .cons s_l_web_8 .nil
def s_l_web_9 : IS := (.for (.tp (.cons (.nm 9) (.cons (.nm 10) .nil))) (.val (.bi .sorted (.cons (.lc [9, 10] (.tp (.cons (.nm 9) (.cons (.nm 10) .nil))) (.val (.var 5)) .nil (.call 5 (.cons (.ix (.var 7) (.var 9)) (.cons (.ix (.var 7) (.var 10)) .nil)))) .nil))) k_l_web_7)
def k_l_web_9 : ISs := .cons s_l_web_9 k_l_web_8
def s_l_web_10 : IS := (.asg (.nm 8) (.lst .nil))
def k_l_web_10 : ISs := .cons s_l_web_10 k_l_web_9
def s_l_web_11 : IS := (.asg (.nm 7) (.call 7 (.cons (.var 0) (.cons (.var 4) .nil))))
def k_l_web_11 : ISs := .cons s_l_web_11 k_l_web_10
def s_l_web_12 : IS := (.for (.nm 6) (.rng (.cons (.bin .Mult (.var 2) (.bi .int (.cons (.cmp .NotEq (.var 5) (.lst .nil)) .nil))) .nil)) k_l_web_6)
def k_l_web_12 : ISs := .cons s_l_web_12 k_l_web_11
def s_l_web_13 : IS := (.asg (.nm 5) (.sp .sortset (.cons (.lc [9, 10] (.tp (.cons (.nm 9) (.cons (.nm 10) .nil))) (.val (.var 5)) .nil (.call 5 (.cons (.var 9) (.cons (.var 10) .nil)))) .nil)))
def k_l_web_13 : ISs := .cons s_l_web_13 k_l_web_12
def s_l_web_14 : IS := (.ifs (.cmp .Lt (.var 1) (.cI 2)) k_l_web_0 k_l_web_5)
def k_l_web_14 : ISs := .cons s_l_web_14 k_l_web_13
def s_l_web_15 : IS := (.par [1, 2, 3] (.cons (.call 0 (.cons (.var 0) (.cons (.cI 7) .nil))) (.cons (.call 0 (.cons (.var 0) (.cons (.cI 7) .nil))) (.cons (.call 0 (.cons (.var 0) (.cons (.cI 5) .nil))) .nil))))
def k_l_web_15 : ISs := .cons s_l_web_15 k_l_web_14
def b_l_web : ISs := k_l_web_15
def n_l_web : List Str := ["_law_hand_here", "_law_way", "_law_turns", "_law_menu", "_law_many", "_law_pairs", "_law_turn", "_law_order_here", "_law_ties", "_law_a", "_law_b"]
def p_l_web : List Str := ["_law_hand_here"]
def f_l_web : List Str := ["_law_take", "_law_ring_pairs", "_law_side_pairs", "_law_heap_pairs", "_law_crossed_pairs", "_law_low_first", "_law_switched", "_law_order"]
def g_l_web : List Str := []
/-- _law_counts(_law_web_here); names 0:_law_web_here 1:_law_found 2:_law_a 3:_law_b 4:_law_fee -/
def s_l_counts_0 : IS := (.set (.var 1) (.var 3) (.bin .Add (.ix (.var 1) (.var 3)) (.cI 1)))
def k_l_counts_0 : ISs := .cons s_l_counts_0 .nil
def s_l_counts_1 : IS := (.set (.var 1) (.var 2) (.bin .Add (.ix (.var 1) (.var 2)) (.cI 1)))
def k_l_counts_1 : ISs := .cons s_l_counts_1 k_l_counts_0
def s_l_counts_2 : IS := (.ret (.var 1))
def k_l_counts_2 : ISs := .cons s_l_counts_2 .nil
def s_l_counts_3 : IS := (.for (.tp (.cons (.nm 2) (.cons (.nm 3) (.cons (.nm 4) .nil)))) (.val (.ix (.var 0) (.cI 1))) k_l_counts_1)
def k_l_counts_3 : ISs := .cons s_l_counts_3 k_l_counts_2
def s_l_counts_4 : IS := (.asg (.nm 1) (.bin .Mult (.lst (.cons (.cI 0) .nil)) (.ix (.var 0) (.cI 0))))
def k_l_counts_4 : ISs := .cons s_l_counts_4 k_l_counts_3
def b_l_counts : ISs := k_l_counts_4
def n_l_counts : List Str := ["_law_web_here", "_law_found", "_law_a", "_law_b", "_law_fee"]
def p_l_counts : List Str := ["_law_web_here"]
def f_l_counts : List Str := []
def g_l_counts : List Str := []
/-- _law_untied(_law_web_here); names 0:_law_web_here 1:_law_tied 2:_law_found 3:_law_a 4:_law_b 5:_law_fee -/
def s_l_untied_0 : IS := (.asg (.nm 2) (.bin .Add (.var 2) (.lc [4] (.nm 4) (.rng (.cons (.bin .Add (.var 3) (.cI 1)) (.cons (.ix (.var 0) (.cI 0)) .nil))) (.cons (.cmp .NotIn (.tup (.cons (.var 3) (.cons (.var 4) .nil))) (.var 1)) .nil) (.tup (.cons (.var 3) (.cons (.var 4) .nil))))))
def k_l_untied_0 : ISs := .cons s_l_untied_0 .nil
def s_l_untied_1 : IS := (.ret (.var 2))
def k_l_untied_1 : ISs := .cons s_l_untied_1 .nil
def s_l_untied_2 : IS := (.for (.nm 3) (.rng (.cons (.ix (.var 0) (.cI 0)) .nil)) k_l_untied_0)
def k_l_untied_2 : ISs := .cons s_l_untied_2 k_l_untied_1
def s_l_untied_3 : IS := (.asg (.nm 2) (.lst .nil))
def k_l_untied_3 : ISs := .cons s_l_untied_3 k_l_untied_2
def s_l_untied_4 : IS := (.asg (.nm 1) (.lc [3, 4, 5] (.tp (.cons (.nm 3) (.cons (.nm 4) (.cons (.nm 5) .nil)))) (.val (.ix (.var 0) (.cI 1))) .nil (.tup (.cons (.var 3) (.cons (.var 4) .nil)))))
def k_l_untied_4 : ISs := .cons s_l_untied_4 k_l_untied_3
def b_l_untied : ISs := k_l_untied_4
def n_l_untied : List Str := ["_law_web_here", "_law_tied", "_law_found", "_law_a", "_law_b", "_law_fee"]
def p_l_untied : List Str := ["_law_web_here"]
def f_l_untied : List Str := []
def g_l_untied : List Str := []
/-- _law_otherwise(_law_hand_here, _law_web_here, _law_way); names 0:_law_hand_here 1:_law_web_here 2:_law_way 3:_law_many 4:_law_ties 5:_law_free 6:_law_a 7:_law_b -/
def s_l_otherwise_0 : IS := (.exp (.mt .popAt (.var 4) (.cons (.call 1 (.cons (.var 0) (.cons (.bi .len (.cons (.var 4) .nil)) .nil))) .nil)))
def k_l_otherwise_0 : ISs := .cons s_l_otherwise_0 .nil
def s_l_otherwise_1 : IS := (.exp (.mt .append (.var 4) (.cons (.tup (.cons (.var 6) (.cons (.var 7) (.cons (.call 1 (.cons (.var 0) (.cons (.cI 9) .nil))) .nil)))) .nil)))
def k_l_otherwise_1 : ISs := .cons s_l_otherwise_1 .nil
def s_l_otherwise_2 : IS := (.asg (.tp (.cons (.nm 6) (.cons (.nm 7) .nil))) (.ix (.var 5) (.call 1 (.cons (.var 0) (.cons (.bi .len (.cons (.var 5) .nil)) .nil)))))
def k_l_otherwise_2 : ISs := .cons s_l_otherwise_2 k_l_otherwise_1
def s_l_otherwise_3 : IS := (.ret (.tup (.cons (.bin .Add (.var 3) (.bi .int (.cons (.and (.cmp .Eq (.var 2) (.cI 4)) (.cmp .Lt (.var 3) (.cI 20))) .nil))) (.cons (.bi .tuple (.cons (.bi .sorted (.cons (.var 4) .nil)) .nil)) .nil))))
def k_l_otherwise_3 : ISs := .cons s_l_otherwise_3 .nil
def s_l_otherwise_4 : IS := (.ifs (.and (.cmp .In (.var 2) (.tup (.cons (.cI 2) (.cons (.cI 3) .nil)))) (.cmp .NotEq (.var 5) (.lst .nil))) k_l_otherwise_2 .nil)
def k_l_otherwise_4 : ISs := .cons s_l_otherwise_4 k_l_otherwise_3
def s_l_otherwise_5 : IS := (.ifs (.and (.cmp .In (.var 2) (.tup (.cons (.cI 1) (.cons (.cI 3) .nil)))) (.cmp .NotEq (.var 4) (.lst .nil))) k_l_otherwise_0 .nil)
def k_l_otherwise_5 : ISs := .cons s_l_otherwise_5 k_l_otherwise_4
def s_l_otherwise_6 : IS := (.asg (.nm 5) (.call 0 (.cons (.var 1) .nil)))
def k_l_otherwise_6 : ISs := .cons s_l_otherwise_6 k_l_otherwise_5
def s_l_otherwise_7 : IS := (.par [3, 4] (.cons (.ix (.var 1) (.cI 0)) (.cons (.bi .list (.cons (.ix (.var 1) (.cI 1)) .nil)) .nil)))
def k_l_otherwise_7 : ISs := .cons s_l_otherwise_7 k_l_otherwise_6
def b_l_otherwise : ISs := k_l_otherwise_7
def n_l_otherwise : List Str := ["_law_hand_here", "_law_web_here", "_law_way", "_law_many", "_law_ties", "_law_free", "_law_a", "_law_b"]
def p_l_otherwise : List Str := ["_law_hand_here", "_law_web_here", "_law_way"]
def f_l_otherwise : List Str := ["_law_untied", "_law_take"]
def g_l_otherwise : List Str := []
/-- law(_law_script); names 0:_law_script 1:_law_k 2:_law_hand_here 3:_law_way 4:_law_web_here 5:_law_counts_here 6:_law_due 7:_law_turn 8:_law_found -/
def s_law_0 : IS := (.ret (.cB false))
def k_law_0 : ISs := .cons s_law_0 .nil
def s_law_1 : IS := (.ifs (.or (.cmp .NotEq (.var 8) (.var 6)) (.or (.sp (.isin .bool) (.cons (.var 8) .nil)) (.and (.cmp .IsNot (.var 6) .cN) (.nt (.sp (.isin .int) (.cons (.var 8) .nil)))))) k_law_0 .nil)
def k_law_1 : ISs := .cons s_law_1 .nil
def s_law_2 : IS := (.asg (.nm 8) (.call 5 (.cons (.var 4) .nil)))
def k_law_2 : ISs := .cons s_law_2 k_law_1
def s_law_3 : IS := (.for (.nm 7) (.rng (.cons (.cI 2) .nil)) k_law_2)
def k_law_3 : ISs := .cons s_law_3 .nil
def s_law_4 : IS := (.asg (.nm 6) (.ite (.cmp .Eq (.bi .min1 (.cons (.var 5) .nil)) (.bi .max1 (.cons (.var 5) .nil))) (.ix (.var 5) (.cI 0)) .cN))
def k_law_4 : ISs := .cons s_law_4 k_law_3
def s_law_5 : IS := (.asg (.nm 5) (.call 4 (.cons (.var 4) .nil)))
def k_law_5 : ISs := .cons s_law_5 k_law_4
def s_law_6 : IS := (.asg (.nm 4) (.call 2 (.cons (.var 2) (.cons (.call 3 (.cons (.var 2) .nil)) (.cons (.var 3) .nil)))))
def k_law_6 : ISs := .cons s_law_6 k_law_5
def s_law_7 : IS := (.asg (.nm 3) (.call 1 (.cons (.var 2) (.cons (.cI 5) .nil))))
def k_law_7 : ISs := .cons s_law_7 k_law_6
def s_law_8 : IS := (.asg (.nm 2) (.call 0 (.cons (.var 0) (.cons (.var 1) .nil))))
def k_law_8 : ISs := .cons s_law_8 k_law_7
def s_law_9 : IS := (.ret (.cB true))
def k_law_9 : ISs := .cons s_law_9 .nil
def s_law_10 : IS := (.for (.nm 1) (.rng (.cons (.bi .max2 (.cons (.cI 2) (.cons (.bi .min2 (.cons (.cI 12) (.cons (.bi .len (.cons (.var 0) .nil)) .nil))) .nil))) .nil)) k_law_8)
def k_law_10 : ISs := .cons s_law_10 k_law_9
def b_law : ISs := k_law_10
def n_law : List Str := ["_law_script", "_law_k", "_law_hand_here", "_law_way", "_law_web_here", "_law_counts_here", "_law_due", "_law_turn", "_law_found"]
def p_law : List Str := ["_law_script"]
def f_law : List Str := ["_law_hand", "_law_take", "_law_otherwise", "_law_web", "_law_counts", "evenly"]
def g_law : List Str := []
theorem c_beside : chSs ⟨n_beside, f_beside, g_beside⟩ (defScope (top 1)) (cellsOfS (defScope (top 1))) b_beside (defBody (top 1)) = true := by decide +kernel
theorem s_beside : FnScope n_beside p_beside (defScope (top 1)) := C8.fnScope_by (by decide +kernel)
theorem c_evenly : chSs ⟨n_evenly, f_evenly, g_evenly⟩ (defScope (top 3)) (cellsOfS (defScope (top 3))) b_evenly (defBody (top 3)) = true := by decide +kernel
theorem s_evenly : FnScope n_evenly p_evenly (defScope (top 3)) := C8.fnScope_by (by decide +kernel)
theorem c_l_hand : chSs ⟨n_l_hand, f_l_hand, g_l_hand⟩ (defScope (top 5)) (cellsOfS (defScope (top 5))) b_l_hand (defBody (top 5)) = true := by decide +kernel
theorem s_l_hand : FnScope n_l_hand p_l_hand (defScope (top 5)) := C8.fnScope_by (by decide +kernel)
theorem c_l_take : chSs ⟨n_l_take, f_l_take, g_l_take⟩ (defScope (top 6)) (cellsOfS (defScope (top 6))) b_l_take (defBody (top 6)) = true := by decide +kernel
theorem s_l_take : FnScope n_l_take p_l_take (defScope (top 6)) := C8.fnScope_by (by decide +kernel)
theorem c_l_order : chSs ⟨n_l_order, f_l_order, g_l_order⟩ (defScope (top 7)) (cellsOfS (defScope (top 7))) b_l_order (defBody (top 7)) = true := by decide +kernel
theorem s_l_order : FnScope n_l_order p_l_order (defScope (top 7)) := C8.fnScope_by (by decide +kernel)
theorem c_l_ring_pairs : chSs ⟨n_l_ring_pairs, f_l_ring_pairs, g_l_ring_pairs⟩ (defScope (top 8)) (cellsOfS (defScope (top 8))) b_l_ring_pairs (defBody (top 8)) = true := by decide +kernel
theorem s_l_ring_pairs : FnScope n_l_ring_pairs p_l_ring_pairs (defScope (top 8)) := C8.fnScope_by (by decide +kernel)
theorem c_l_side_pairs : chSs ⟨n_l_side_pairs, f_l_side_pairs, g_l_side_pairs⟩ (defScope (top 9)) (cellsOfS (defScope (top 9))) b_l_side_pairs (defBody (top 9)) = true := by decide +kernel
theorem s_l_side_pairs : FnScope n_l_side_pairs p_l_side_pairs (defScope (top 9)) := C8.fnScope_by (by decide +kernel)
theorem c_l_heap_pairs : chSs ⟨n_l_heap_pairs, f_l_heap_pairs, g_l_heap_pairs⟩ (defScope (top 10)) (cellsOfS (defScope (top 10))) b_l_heap_pairs (defBody (top 10)) = true := by decide +kernel
theorem s_l_heap_pairs : FnScope n_l_heap_pairs p_l_heap_pairs (defScope (top 10)) := C8.fnScope_by (by decide +kernel)
theorem c_l_crossed_pairs : chSs ⟨n_l_crossed_pairs, f_l_crossed_pairs, g_l_crossed_pairs⟩ (defScope (top 11)) (cellsOfS (defScope (top 11))) b_l_crossed_pairs (defBody (top 11)) = true := by decide +kernel
theorem s_l_crossed_pairs : FnScope n_l_crossed_pairs p_l_crossed_pairs (defScope (top 11)) := C8.fnScope_by (by decide +kernel)
theorem c_l_low_first : chSs ⟨n_l_low_first, f_l_low_first, g_l_low_first⟩ (defScope (top 12)) (cellsOfS (defScope (top 12))) b_l_low_first (defBody (top 12)) = true := by decide +kernel
theorem s_l_low_first : FnScope n_l_low_first p_l_low_first (defScope (top 12)) := C8.fnScope_by (by decide +kernel)
theorem c_l_switched : chSs ⟨n_l_switched, f_l_switched, g_l_switched⟩ (defScope (top 13)) (cellsOfS (defScope (top 13))) b_l_switched (defBody (top 13)) = true := by decide +kernel
theorem s_l_switched : FnScope n_l_switched p_l_switched (defScope (top 13)) := C8.fnScope_by (by decide +kernel)
theorem c_l_web : chSs ⟨n_l_web, f_l_web, g_l_web⟩ (defScope (top 14)) (cellsOfS (defScope (top 14))) b_l_web (defBody (top 14)) = true := by decide +kernel
theorem s_l_web : FnScope n_l_web p_l_web (defScope (top 14)) := C8.fnScope_by (by decide +kernel)
theorem c_l_counts : chSs ⟨n_l_counts, f_l_counts, g_l_counts⟩ (defScope (top 15)) (cellsOfS (defScope (top 15))) b_l_counts (defBody (top 15)) = true := by decide +kernel
theorem s_l_counts : FnScope n_l_counts p_l_counts (defScope (top 15)) := C8.fnScope_by (by decide +kernel)
theorem c_l_untied : chSs ⟨n_l_untied, f_l_untied, g_l_untied⟩ (defScope (top 16)) (cellsOfS (defScope (top 16))) b_l_untied (defBody (top 16)) = true := by decide +kernel
theorem s_l_untied : FnScope n_l_untied p_l_untied (defScope (top 16)) := C8.fnScope_by (by decide +kernel)
theorem c_l_otherwise : chSs ⟨n_l_otherwise, f_l_otherwise, g_l_otherwise⟩ (defScope (top 17)) (cellsOfS (defScope (top 17))) b_l_otherwise (defBody (top 17)) = true := by decide +kernel
theorem s_l_otherwise : FnScope n_l_otherwise p_l_otherwise (defScope (top 17)) := C8.fnScope_by (by decide +kernel)
theorem c_law : chSs ⟨n_law, f_law, g_law⟩ (defScope (top 18)) (cellsOfS (defScope (top 18))) b_law (defBody (top 18)) = true := by decide +kernel
theorem s_law : FnScope n_law p_law (defScope (top 18)) := C8.fnScope_by (by decide +kernel)
end K48


namespace K48
open PySem PySem.Spec PyProof.Rows L2 G

def Hand (S : Sto) (h : Addr) : Prop := ∃ own st n : Int, S h = some (.lst [.int own, .int st, .int n]) ∧ 0 ≤ own ∧ 0 ≤ st ∧ st < 2147483647
theorem Hand.some {S : Sto} {h : Addr} (x : Hand S h) : ∃ c, S h = Option.some c := let ⟨_, _, _, e, _⟩ := x; ⟨_, e⟩
theorem Hand.ne {S : Sto} {h p : Addr} (x : Hand S h) (n : S p = none) : h ≠ p := let ⟨_, _, _, e, _⟩ := x; sto_ne e n
theorem Hand.new {S : Sto} {h p : Addr} {c : Cell} (x : Hand S h) (n : S p = none) : Hand (sup S p c) h := by
  obtain ⟨a, b, d, e, r⟩ := x
  exact ⟨a, b, d, sup_old e n, r⟩
theorem Hand.put {S : Sto} {h p : Addr} {c : Cell} (x : Hand S h) (n : h ≠ p) : Hand (sup S p c) h := by
  obtain ⟨a, b, d, e, r⟩ := x
  exact ⟨a, b, d, by rw [sup_ne n]; exact e, r⟩
/-- _law_take -/
def spTake : DSp := fun ds S Q => ∃ h m, ds = [.ref h, .int m] ∧ Hand S h ∧ 1 ≤ m ∧ m < 2 ^ 62 ∧ ∀ S' r, Fr [h] S S' → Hand S' h → 0 ≤ r → r < m → Q (.int r) S'
theorem w_take (ds : List D) (S : Sto) (Q : QE) (hs : spTake ds S Q) : ds.length = 2 ∧ wpSs ⟨[], []⟩ b_l_take ⟨fun _ S' => Q .non S', Q⟩ (startD 3 ds) S := by
  obtain ⟨h, m, rfl, ⟨own, st, n, hS, h1, h2, h3⟩, hm, hm2, hQ⟩ := hs
  refine ⟨rfl, ?_⟩
  simp only [b_l_take, k_l_take_6, s_l_take_6, k_l_take_5, s_l_take_5, k_l_take_4, s_l_take_4, k_l_take_3, s_l_take_3, k_l_take_2, s_l_take_2, k_l_take_1, s_l_take_1, k_l_take_0, s_l_take_0, wpSs, G.wpS, wpE, wpT, wpTs, wpI, wpEs, wpBin, wpCmp, wpLt, wpIx, wpBI, wpMI, tyMI, wpAug, parSet, asg_nm, asg_tp, asg_nil, asg_cons, wipeD, startD, SeqD, ListD, List.map_cons, List.map_nil, List.length_cons, List.length_nil, List.cons_append, List.nil_append, List.getElem?_cons_zero, List.getElem?_cons_succ, List.replicate, List.set_cons_zero, List.set_cons_succ, Option.some.injEq, Cell.lst.injEq, D.int.injEq, D.ref.injEq, D.tup.injEq, D.bl.injEq, exists_eq_left, exists_eq_left', exists_and_left, exists_and_right, exists_eq_right, exists_eq, and_true, true_and, sup_same, eq_ii, ng_f, ng_t, at0, at1, at2, at3, ix0, ix1, ix2, ix3, Nat.reduceAdd, Nat.reduceSub, hS]
  have z : (2 : Int) ^ 64 = 18446744073709551616 := by decide
  by_cases ho : 0 < own
  · rw [decide_eq_true ho]
    refine ⟨by omega, cdiv_ok (by omega) (by omega), hQ _ _ (Fr.put (by simp)) ⟨own / m, st, n, sup_same, Int.ediv_nonneg h1 (by omega), h2, h3⟩ (Int.emod_nonneg _ (by omega)) (Int.emod_lt_of_pos _ (by omega))⟩
  · rw [decide_eq_false ho]
    have q1 := Int.emod_nonneg (st * 48271 + 7919 * (n + 1) + 1) (show (2147483647 : Int) ≠ 0 by decide)
    have q2 := Int.emod_lt_of_pos (st * 48271 + 7919 * (n + 1) + 1) (show (0 : Int) < 2147483647 by decide)
    refine ⟨cmul_r (by omega) (by omega), cmul_l (by omega) (by omega), by omega, cpow_ok (by omega) (by omega) (by omega) (by omega), by omega, cdiv_ok (by omega) (by omega), by omega, ?_⟩
    exact hQ _ _ ((Fr.put (by simp)).trans (Fr.put (by simp))) ⟨own, _, n + 1, sup_same, h1, q1, q2⟩ (Int.emod_nonneg _ (by omega)) (Int.emod_lt_of_pos _ (by omega))
/-- _law_hand -/
def spHand : DSp := fun ds S Q => ∃ (ns : List Int) (k : Nat), ds = [.cl (ns.map D.int), .int (k : Int)] ∧ k < 63 ∧ ∀ S' h, Fr [] S S' → S h = none → Hand S' h → Q (.ref h) S'
theorem hand_tail (i : Int) (k : Nat) (d : D) (hk : k < 63) (S : Sto) (Q : QE) (hQ : ∀ (S' : Sto) (h : Addr), G.Fr [] S S' → S h = none → Hand S' h → Q (.ref h) S') : wpSs ⟨[], []⟩ k_l_hand_2 ⟨fun _ S' => Q .non S', Q⟩ [some d, some (.int k), some (.int i), none, none] S := by
  have hz : szL = 16777216 := rfl
  obtain ⟨j, hj, hj0, hj1⟩ : ∃ j : Int, atI [D.int 2147483629, D.int 2147483587, D.int 2147483579, D.int 2147483563, D.int 2147483549, D.int 2147483543, D.int 2147483497, D.int 2147483489] ((k : Int) % 8) = some (.int j) ∧ 0 < j ∧ j < 2147483648 := by
    have e : (k : Int) % 8 = ((k % 8 : Nat) : Int) := by omega
    rw [e, atN]
    have : k % 8 < 8 := Nat.mod_lt _ (by decide)
    match h : k % 8, this with
    | 0, _ => exact ⟨_, rfl, by decide, by decide⟩
    | 1, _ => exact ⟨_, rfl, by decide, by decide⟩
    | 2, _ => exact ⟨_, rfl, by decide, by decide⟩
    | 3, _ => exact ⟨_, rfl, by decide, by decide⟩
    | 4, _ => exact ⟨_, rfl, by decide, by decide⟩
    | 5, _ => exact ⟨_, rfl, by decide, by decide⟩
    | 6, _ => exact ⟨_, rfl, by decide, by decide⟩
    | 7, _ => exact ⟨_, rfl, by decide, by decide⟩
  simp only [k_l_hand_2, s_l_hand_2, k_l_hand_1, s_l_hand_1, k_l_hand_0, s_l_hand_0, wpSs, G.wpS, wpE, wpT, wpTs, wpI, wpEs, wpBin, wpCmp, wpLt, wpIx, wpBI, wpMI, tyMI, wpAug, parSet, asg_nm, asg_tp, asg_nil, asg_cons, wipeD, startD, SeqD, ListD, List.map_cons, List.map_nil, List.length_cons, List.length_nil, List.cons_append, List.nil_append, List.getElem?_cons_zero, List.getElem?_cons_succ, List.replicate, List.set_cons_zero, List.set_cons_succ, Option.some.injEq, Cell.lst.injEq, D.int.injEq, D.ref.injEq, D.tup.injEq, D.bl.injEq, exists_eq_left, exists_eq_left', exists_and_left, exists_and_right, exists_eq_right, exists_eq, and_true, true_and, sup_same, eq_ii, ng_f, ng_t, at0, at1, at2, at3, ix0, ix1, ix2, ix3, Nat.reduceAdd, Nat.reduceSub]
  have z : (2 : Int) ^ 64 = 18446744073709551616 := by decide
  have ep : (10 : Int) ^ Int.toNat 60 * 10 ^ Int.toNat 30 = 10 ^ 90 := by decide
  rw [ep]
  have p90 : (0 : Int) < 10 ^ 90 := by decide
  have eq1 := Int.emod_nonneg i (show j ≠ 0 by omega)
  have eq2 := Int.emod_lt_of_pos i hj0
  refine ⟨by omega, fun p hp => ⟨cpow_ok (by omega) (by omega) (by omega) (by omega), cpow_ok (by omega) (by omega) (by omega) (by omega), .inr ?_, p90, cpow_ok (by omega) (by omega) (by omega) (by omega), ?_, by omega, .int j, hj, hj0, cmul_l (by omega) (by omega), cpow_ok (by omega) (by omega) (by omega) (by omega), by omega, by omega, fun p1 hp1 => ?_⟩⟩
  · show _ < _
    decide +kernel
  · split
    · exact cmul_r (by omega) (by omega)
    · exact cmul_r (by omega) (by omega)
  · refine hQ _ _ ((Fr.new hp).trans (Fr.new hp1)) (sup_none hp1).1 ⟨_, _, _, sup_same, ?_, Int.emod_nonneg _ (by decide), Int.emod_lt_of_pos _ (by decide)⟩
    refine Int.mul_nonneg (Int.emod_nonneg _ (by omega)) ?_
    split <;> omega
theorem w_hand (ds : List D) (S : Sto) (Q : QE) (hs : spHand ds S Q) : ds.length = 2 ∧ wpSs ⟨[], []⟩ b_l_hand ⟨fun _ S' => Q .non S', Q⟩ (startD 5 ds) S := by
  obtain ⟨ns, k, rfl, hk, hQ⟩ := hs
  refine ⟨rfl, ?_⟩
  simp only [b_l_hand, k_l_hand_3, s_l_hand_3, wpSs, G.wpS, wpE, wpT, wpTs, wpI, wpEs, wpBin, wpCmp, wpLt, wpIx, wpBI, wpMI, tyMI, wpAug, parSet, asg_nm, asg_tp, asg_nil, asg_cons, wipeD, startD, SeqD, ListD, List.map_cons, List.map_nil, List.length_cons, List.length_nil, List.cons_append, List.nil_append, List.getElem?_cons_zero, List.getElem?_cons_succ, List.replicate, List.set_cons_zero, List.set_cons_succ, Option.some.injEq, Cell.lst.injEq, D.int.injEq, D.ref.injEq, D.tup.injEq, D.bl.injEq, exists_eq_left, exists_eq_left', exists_and_left, exists_and_right, exists_eq_right, exists_eq, and_true, true_and, sup_same, eq_ii, ng_f, ng_t, at0, at1, at2, at3, ix0, ix1, ix2, ix3, Nat.reduceAdd, Nat.reduceSub]
  by_cases hl : k < ns.length
  · rw [decide_eq_true (by simpa using hl)]
    refine ⟨.int ns[k], ?_, hand_tail _ k _ hk S Q hQ⟩
    rw [atN, List.getElem?_map, List.getElem?_eq_getElem hl]; rfl
  · rw [decide_eq_false (by simpa using hl)]
    exact hand_tail 0 k _ hk S Q hQ

/-- a tie: a, b, fee -/
def tD (t : Int × Int × Int) : D := .tup [.int t.1, .int t.2.1, .int t.2.2]
def webD (many : Int) (ts : List (Int × Int × Int)) : D := .tup [.int many, .tup (ts.map tD)]
/-- how many ends of ties stand at p -/
def cnt (ts : List (Int × Int × Int)) (p : Int) : Nat := (ts.filter fun t => t.2.1 == p).length + (ts.filter fun t => t.1 == p).length
/-- beside -/
def spBeside : DSp := fun ds S Q => ∃ many ts p, ds = [webD many ts, .int p] ∧ ts.length ≤ 1000 ∧ ∀ S' xs, Fr [] S S' → xs.length = cnt ts p → Q (.tup xs) S'
theorem w_beside (ds : List D) (S : Sto) (Q : QE) (hs : spBeside ds S Q) : ds.length = 2 ∧ wpSs ⟨[], []⟩ b_beside ⟨fun _ S' => Q .non S', Q⟩ (startD 6 ds) S := by
  obtain ⟨many, ts, p, rfl, hl, hQ⟩ := hs
  refine ⟨rfl, ?_⟩
  have hz : szL = 16777216 := rfl
  simp only [b_beside, k_beside_1, s_beside_1, k_beside_0, s_beside_0, wpSs, G.wpS, wpE, wpT, wpTs, wpI, wpEs, wpBin, wpCmp, wpLt, wpIx, wpBI, wpMI, tyMI, wpAug, parSet, asg_nm, asg_tp, asg_nil, asg_cons, wipeD, startD, SeqD, ListD, List.map_cons, List.map_nil, List.length_cons, List.length_nil, List.cons_append, List.nil_append, List.getElem?_cons_zero, List.getElem?_cons_succ, List.replicate, List.set_cons_zero, List.set_cons_succ, Option.some.injEq, Cell.lst.injEq, D.int.injEq, D.ref.injEq, D.tup.injEq, D.bl.injEq, exists_eq_left, exists_eq_left', exists_and_left, exists_and_right, exists_eq_right, exists_eq, and_true, true_and, sup_same, eq_ii, ng_f, ng_t, at0, at1, at2, at3, ix0, ix1, ix2, ix3, Nat.reduceAdd, Nat.reduceSub, webD]
  refine lcRun_if ts tD (fun t => .int t.1) (fun t => t.2.1 == p) trivial (fun t ht N hN => ?_) fun p1 hp1 => ?_
  · simp only [tD, wpSs, G.wpS, wpE, wpT, wpTs, wpI, wpEs, wpBin, wpCmp, wpLt, wpIx, wpBI, wpMI, tyMI, wpAug, parSet, asg_nm, asg_tp, asg_nil, asg_cons, wipeD, startD, SeqD, ListD, List.map_cons, List.map_nil, List.length_cons, List.length_nil, List.cons_append, List.nil_append, List.getElem?_cons_zero, List.getElem?_cons_succ, List.replicate, List.set_cons_zero, List.set_cons_succ, Option.some.injEq, Cell.lst.injEq, D.int.injEq, D.ref.injEq, D.tup.injEq, D.bl.injEq, exists_eq_left, exists_eq_left', exists_and_left, exists_and_right, exists_eq_right, exists_eq, and_true, true_and, sup_same, eq_ii, ng_f, ng_t, at0, at1, at2, at3, ix0, ix1, ix2, ix3, Nat.reduceAdd, Nat.reduceSub]
    by_cases e : t.2.1 = p
    · simpa [e] using hN
    · simpa [e] using hN
  refine lcRun_if ts tD (fun t => .int t.2.1) (fun t => t.1 == p) trivial (fun t ht N hN => ?_) fun p2 hp2 => ?_
  · simp only [tD, wpSs, G.wpS, wpE, wpT, wpTs, wpI, wpEs, wpBin, wpCmp, wpLt, wpIx, wpBI, wpMI, tyMI, wpAug, parSet, asg_nm, asg_tp, asg_nil, asg_cons, wipeD, startD, SeqD, ListD, List.map_cons, List.map_nil, List.length_cons, List.length_nil, List.cons_append, List.nil_append, List.getElem?_cons_zero, List.getElem?_cons_succ, List.replicate, List.set_cons_zero, List.set_cons_succ, Option.some.injEq, Cell.lst.injEq, D.int.injEq, D.ref.injEq, D.tup.injEq, D.bl.injEq, exists_eq_left, exists_eq_left', exists_and_left, exists_and_right, exists_eq_right, exists_eq, and_true, true_and, sup_same, eq_ii, ng_f, ng_t, at0, at1, at2, at3, ix0, ix1, ix2, ix3, Nat.reduceAdd, Nat.reduceSub]
    by_cases e : t.1 = p
    · simpa [e] using hN
    · simpa [e] using hN
  have e0 : (ts.filter fun t => t.2.1 == p).length ≤ ts.length := List.length_filter_le _ _
  have e0' : (ts.filter fun t => t.1 == p).length ≤ ts.length := List.length_filter_le _ _
  refine ⟨_, sup_old sup_same hp2, by rw [List.length_map, List.length_map]; omega, fun p3 hp3 => ?_⟩
  have e1 : ((ts.filter fun t => t.2.1 == p).map fun t => D.int t.1) ++ ((ts.filter fun t => t.1 == p).map fun t => D.int t.2.1) = (((ts.filter fun t => t.2.1 == p).map fun t => t.1) ++ ((ts.filter fun t => t.1 == p).map fun t => t.2.1)).map D.int := by
    rw [List.map_append, List.map_map, List.map_map]; rfl
  rw [e1]
  refine ⟨sort_ints _, fun p4 hp4 => hQ _ _ ((((Fr.new hp1).trans (Fr.new hp2)).trans (Fr.new hp3)).trans (Fr.new hp4)) ?_⟩
  rw [List.length_mergeSort, List.length_map, List.length_append, List.length_map, List.length_map]
  rfl
end K48


namespace K48
open PySem PySem.Spec PyProof.Rows L2 G

/-- the one number of all, or None -/
def evD (cs : List Int) : D := if cs.all (· == cs.headD 0) then .int (cs.headD 0) else .non
theorem ev_eq {cs : List Int} {m M : Int} (hne : cs ≠ []) (h1 : m ∈ cs) (h2 : ∀ y ∈ cs, m ≤ y) (h3 : M ∈ cs) (h4 : ∀ y ∈ cs, y ≤ M) : (decide (m = M) = true → evD cs = .int (cs.headD 0)) ∧ (decide (m = M) = false → evD cs = .non) := by
  have hd : cs.headD 0 ∈ cs := by
    cases cs with
    | nil => exact absurd rfl hne
    | cons a r => exact List.mem_cons_self
  constructor
  · intro e
    have e' : m = M := of_decide_eq_true e
    unfold evD
    rw [if_pos]
    rw [List.all_eq_true]
    intro y hy
    have a1 := h2 y hy; have a2 := h4 y hy; have a3 := h2 _ hd; have a4 := h4 _ hd
    rw [beq_iff_eq]; omega
  · intro e
    have e' : m ≠ M := of_decide_eq_false e
    unfold evD
    rw [if_neg]
    intro al
    rw [List.all_eq_true] at al
    have b1 := al m h1; have b2 := al M h3
    rw [beq_iff_eq] at b1 b2
    exact e' (b1.trans b2.symm)
def cnts (many : Int) (ts : List (Int × Int × Int)) : List Int := (List.range many.toNat).map fun (p : Nat) => (cnt ts (p : Int) : Int)
theorem cnts_ne {many : Int} {ts : List (Int × Int × Int)} (h : 1 ≤ many) : cnts many ts ≠ [] := by
  intro e
  have := congrArg List.length e
  simp [cnts] at this
  omega
/-- evenly -/
def spEvenly : DSp := fun ds S Q => ∃ many ts, ds = [webD many ts] ∧ 1 ≤ many ∧ many ≤ 1000 ∧ ts.length ≤ 1000 ∧ ∀ S', Fr [] S S' → Q (evD (cnts many ts)) S'
theorem w_evenly (ds : List D) (S : Sto) (Q : QE) (hs : spEvenly ds S Q) : ds.length = 1 ∧ wpSs ⟨[("beside", spBeside)], []⟩ b_evenly ⟨fun _ S' => Q .non S', Q⟩ (startD 3 ds) S := by
  obtain ⟨many, ts, rfl, h1, h2, hl, hQ⟩ := hs
  refine ⟨rfl, ?_⟩
  have hz : szL = 16777216 := rfl
  simp only [b_evenly, k_evenly_3, s_evenly_3, k_evenly_2, s_evenly_2, k_evenly_1, s_evenly_1, k_evenly_0, s_evenly_0, wpSs, G.wpS, wpE, wpT, wpTs, wpI, wpEs, wpBin, wpCmp, wpLt, wpIx, wpBI, wpMI, tyMI, wpAug, parSet, asg_nm, asg_tp, asg_nil, asg_cons, wipeD, startD, SeqD, ListD, List.map_cons, List.map_nil, List.length_cons, List.length_nil, List.cons_append, List.nil_append, List.getElem?_cons_zero, List.getElem?_cons_succ, List.replicate, List.set_cons_zero, List.set_cons_succ, Option.some.injEq, Cell.lst.injEq, D.int.injEq, D.ref.injEq, D.tup.injEq, D.bl.injEq, exists_eq_left, exists_eq_left', exists_and_left, exists_and_right, exists_eq_right, exists_eq, and_true, true_and, sup_same, eq_ii, ng_f, ng_t, at0, at1, at2, at3, ix0, ix1, ix2, ix3, Nat.reduceAdd, Nat.reduceSub, webD]
  refine ⟨by omega, by omega, ?_⟩
  refine lcRun_inv _ (fun i acc S' => Fr [] S S' ∧ acc = (List.range i).map fun (p : Nat) => D.int (cnt ts (p : Int) : Int)) ⟨Fr.refl, rfl⟩ (fun _ _ _ _ _ => trivial) (fun i x acc S1 N hx ⟨fr, ha⟩ hN => ?_) (fun acc S1 ⟨fr, ha⟩ p hp => ?_)
  · have hx' : x = .int (i : Int) := by
      rw [List.getElem?_map] at hx
      cases q : (List.range many.toNat)[i]? with
      | none => rw [q] at hx; cases hx
      | some j =>
        rw [q] at hx
        obtain ⟨_, e⟩ := List.getElem?_eq_some_iff.mp q
        rw [List.getElem_range] at e
        subst e
        cases hx; rfl
    subst hx'
    refine ⟨many, ts, i, rfl, hl, fun S2 xs fr2 hxs => hN _ _ ⟨fr.trans fr2, ?_⟩⟩
    rw [ha, List.range_succ, List.map_append]
    simp [hxs]
  · have ec : acc = (cnts many ts).map D.int := by
      rw [ha, List.length_map, List.length_range]
      unfold cnts
      rw [List.map_map]; rfl
    rw [ec]
    refine ⟨cnts many ts, rfl, cnts_ne h1, fun m hm hm2 => ⟨cnts many ts, rfl, cnts_ne h1, fun M hM hM2 => ?_⟩⟩
    obtain ⟨a1, a2⟩ := ev_eq (cnts_ne h1) hm hm2 hM hM2
    have fr' := fr.trans (Fr.new (c := .lst ((cnts many ts).map D.int)) hp)
    by_cases e : m = M
    · have q := hQ _ fr'
      rw [a1 (decide_eq_true e)] at q
      simp only [e, decide_true, Bool.not_true]
      have hne := cnts_ne (ts := ts) h1
      generalize cnts many ts = cs at *
      cases cs with
      | nil => exact absurd rfl hne
      | cons c cs => exact ⟨_, at0, q⟩
    · have q := hQ _ fr'
      rw [a2 (decide_eq_false e)] at q
      simp only [e, decide_false, Bool.not_false]
      exact q

theorem mem_range {n : Nat} {i : Nat} {x : D} (hx : ((List.range n).map fun (i : Nat) => D.int (i : Int))[i]? = some x) : x = .int (i : Int) ∧ i < n := by
  rw [List.getElem?_map] at hx
  cases q : (List.range n)[i]? with
  | none => rw [q] at hx; cases hx
  | some j =>
    rw [q] at hx
    obtain ⟨h, e⟩ := List.getElem?_eq_some_iff.mp q
    rw [List.getElem_range] at e
    subst e
    cases hx
    exact ⟨rfl, by simpa using h⟩
/-- one end more at a -/
theorem cnt_next (ts : List (Int × Int × Int)) (t : Int × Int × Int) (p : Int) : (cnt (ts ++ [t]) p : Int) = cnt ts p + (if t.2.1 = p then 1 else 0) + (if t.1 = p then 1 else 0) := by
  unfold cnt
  rw [List.filter_append, List.filter_append, List.length_append, List.length_append]
  by_cases h1 : t.2.1 = p <;> by_cases h2 : t.1 = p <;> simp [h1, h2] <;> omega
theorem set_count {n : Nat} {f : Nat → Int} {a : Int} (h0 : 0 ≤ a) (h1 : a < n) : ((List.range n).map fun (p : Nat) => D.int (f p)).set a.toNat (.int (f a.toNat + 1)) = (List.range n).map fun (p : Nat) => D.int (f p + if a = (p : Int) then 1 else 0) := by
  apply List.ext_getElem?
  intro j
  by_cases hj : a.toNat = j
  · subst hj
    rw [List.getElem?_set_self (by simp; omega), List.getElem?_map, List.getElem?_range (by omega)]
    simp [Int.toNat_of_nonneg h0]
  · rw [List.getElem?_set_ne hj, List.getElem?_map, List.getElem?_map]
    by_cases hl : j < n
    · rw [List.getElem?_range hl]
      have : ¬ a = (j : Int) := by omega
      simp [this]
    · rw [List.getElem?_eq_none (by simpa using hl)]; rfl
def InR (many : Int) (t : Int × Int × Int) : Prop := 0 ≤ t.1 ∧ t.1 < many ∧ 0 ≤ t.2.1 ∧ t.2.1 < many
theorem at_count {n : Nat} {f : Nat → Int} {a : Int} (h0 : 0 ≤ a) (h1 : a < n) : atI ((List.range n).map fun (p : Nat) => D.int (f p)) a = some (.int (f a.toNat)) := by
  rw [atP h0, List.getElem?_map, List.getElem?_range (by omega)]; rfl
theorem ixN_ok {n : Nat} {a : Int} (h0 : 0 ≤ a) (h1 : a < n) : ixN n a = some a.toNat := by
  unfold ixN; rw [if_pos h0, if_pos h1]
/-- _law_counts -/
def spCounts : DSp := fun ds S Q => ∃ many ts, ds = [webD many ts] ∧ 1 ≤ many ∧ many ≤ 1000 ∧ ts.length ≤ 1000 ∧ (∀ t ∈ ts, InR many t) ∧ ∀ S' p, Fr [] S S' → S p = none → S' p = some (.lst ((cnts many ts).map D.int)) → Q (.ref p) S'
theorem w_counts (ds : List D) (S : Sto) (Q : QE) (hs : spCounts ds S Q) : ds.length = 1 ∧ wpSs ⟨[], []⟩ b_l_counts ⟨fun _ S' => Q .non S', Q⟩ (startD 5 ds) S := by
  obtain ⟨many, ts, rfl, h1, h2, hl, hr, hQ⟩ := hs
  refine ⟨rfl, ?_⟩
  have hz : szL = 16777216 := rfl
  simp only [b_l_counts, k_l_counts_4, s_l_counts_4, k_l_counts_3, s_l_counts_3, k_l_counts_2, s_l_counts_2, wpSs, G.wpS, wpE, wpT, wpTs, wpI, wpEs, wpBin, wpCmp, wpLt, wpIx, wpBI, wpMI, tyMI, wpAug, parSet, asg_nm, asg_tp, asg_nil, asg_cons, wipeD, startD, SeqD, ListD, List.map_cons, List.map_nil, List.length_cons, List.length_nil, List.cons_append, List.nil_append, List.getElem?_cons_zero, List.getElem?_cons_succ, List.replicate, List.set_cons_zero, List.set_cons_succ, Option.some.injEq, Cell.lst.injEq, D.int.injEq, D.ref.injEq, D.tup.injEq, D.bl.injEq, exists_eq_left, exists_eq_left', exists_and_left, exists_and_right, exists_eq_right, exists_eq, and_true, true_and, sup_same, eq_ii, ng_f, ng_t, at0, at1, at2, at3, ix0, ix1, ix2, ix3, Nat.reduceAdd, Nat.reduceSub, webD]
  have pw : ((2 : Int) ^ 63) = 9223372036854775808 := by decide
  refine ⟨by omega, fun p hp => ⟨⟨by omega, by omega⟩, by omega, fun p1 hp1 => ?_⟩⟩
  have hn1 : S p1 = none := (sup_none hp1).1
  refine forRun_inv _ (fun i ρ S1 => ∃ x y z, ρ = [some (D.tup [D.int many, D.tup (List.map tD ts)]), some (D.ref p1), x, y, z] ∧ Fr [] S S1 ∧ S1 p1 = some (.lst ((List.range many.toNat).map fun (p : Nat) => D.int (cnt (ts.take i) (p : Int) : Int))))
    ⟨_, _, _, rfl, (Fr.new hp).trans (Fr.new hp1), ?_⟩ (fun _ _ _ _ _ => trivial) (fun i x ρ S1 N hx ⟨x2, x3, x4, hρ, fr, hc⟩ hN => ?_) (fun ρ S1 ⟨x2, x3, x4, hρ, fr, hc⟩ => ?_)
  · rw [sup_same]
    congr 2
    rw [List.flatten_replicate_singleton]
    apply List.ext_getElem?
    intro j
    by_cases hj : j < many.toNat
    · rw [List.getElem?_map, List.getElem?_range hj, List.getElem?_replicate, if_pos hj]
      simp [cnt]
    · rw [List.getElem?_eq_none (by simpa using hj), List.getElem?_eq_none (by simpa using hj)]
  · rw [List.getElem?_map] at hx
    cases q : ts[i]? with
    | none => rw [q] at hx; cases hx
    | some t =>
      rw [q] at hx
      cases hx
      obtain ⟨r1, r2, r3, r4⟩ := hr t (List.mem_of_getElem? q)
      subst hρ
      have ht : ts.take (i + 1) = ts.take i ++ [t] := by rw [List.take_succ, q]; rfl
      have n0 : (0 : Int) ≤ many := by omega
      have hm : ((many.toNat : Nat) : Int) = many := Int.toNat_of_nonneg n0
      simp only [tD, k_l_counts_1, s_l_counts_1, k_l_counts_0, s_l_counts_0, wpSs, G.wpS, wpE, wpT, wpTs, wpI, wpEs, wpBin, wpCmp, wpLt, wpIx, wpBI, wpMI, tyMI, wpAug, parSet, asg_nm, asg_tp, asg_nil, asg_cons, wipeD, startD, SeqD, ListD, List.map_cons, List.map_nil, List.length_cons, List.length_nil, List.cons_append, List.nil_append, List.getElem?_cons_zero, List.getElem?_cons_succ, List.replicate, List.set_cons_zero, List.set_cons_succ, Option.some.injEq, Cell.lst.injEq, D.int.injEq, D.ref.injEq, D.tup.injEq, D.bl.injEq, exists_eq_left, exists_eq_left', exists_and_left, exists_and_right, exists_eq_right, exists_eq, and_true, true_and, sup_same, eq_ii, ng_f, ng_t, at0, at1, at2, at3, ix0, ix1, ix2, ix3, Nat.reduceAdd, Nat.reduceSub, hc]
      rw [at_count r1 (by omega), List.length_map, List.length_range, ixN_ok r1 (by omega)]
      simp only [wpSs, G.wpS, wpE, wpT, wpTs, wpI, wpEs, wpBin, wpCmp, wpLt, wpIx, wpBI, wpMI, tyMI, wpAug, parSet, asg_nm, asg_tp, asg_nil, asg_cons, wipeD, startD, SeqD, ListD, List.map_cons, List.map_nil, List.length_cons, List.length_nil, List.cons_append, List.nil_append, List.getElem?_cons_zero, List.getElem?_cons_succ, List.replicate, List.set_cons_zero, List.set_cons_succ, Option.some.injEq, Cell.lst.injEq, D.int.injEq, D.ref.injEq, D.tup.injEq, D.bl.injEq, exists_eq_left, exists_eq_left', exists_and_left, exists_and_right, exists_eq_right, exists_eq, and_true, true_and, sup_same, eq_ii, ng_f, ng_t, at0, at1, at2, at3, ix0, ix1, ix2, ix3, Nat.reduceAdd, Nat.reduceSub]
      rw [set_count r1 (by omega)]
      rw [at_count r3 (by omega), List.length_map, List.length_range, ixN_ok r3 (by omega)]
      simp only [wpSs, G.wpS, wpE, wpT, wpTs, wpI, wpEs, wpBin, wpCmp, wpLt, wpIx, wpBI, wpMI, tyMI, wpAug, parSet, asg_nm, asg_tp, asg_nil, asg_cons, wipeD, startD, SeqD, ListD, List.map_cons, List.map_nil, List.length_cons, List.length_nil, List.cons_append, List.nil_append, List.getElem?_cons_zero, List.getElem?_cons_succ, List.replicate, List.set_cons_zero, List.set_cons_succ, Option.some.injEq, Cell.lst.injEq, D.int.injEq, D.ref.injEq, D.tup.injEq, D.bl.injEq, exists_eq_left, exists_eq_left', exists_and_left, exists_and_right, exists_eq_right, exists_eq, and_true, true_and, sup_same, eq_ii, ng_f, ng_t, at0, at1, at2, at3, ix0, ix1, ix2, ix3, Nat.reduceAdd, Nat.reduceSub]
      rw [set_count r3 (by omega)]
      refine hN _ _ ⟨_, _, _, rfl, (fr.put_new hn1).put_new hn1, ?_⟩
      rw [sup_same, ht]
      congr 3
      funext p
      rw [cnt_next]
      congr 1
      split <;> split <;> simp_all <;> omega
  · subst hρ
    simp only [wpSs, G.wpS, wpE, wpT, wpTs, wpI, wpEs, wpBin, wpCmp, wpLt, wpIx, wpBI, wpMI, tyMI, wpAug, parSet, asg_nm, asg_tp, asg_nil, asg_cons, wipeD, startD, SeqD, ListD, List.map_cons, List.map_nil, List.length_cons, List.length_nil, List.cons_append, List.nil_append, List.getElem?_cons_zero, List.getElem?_cons_succ, List.replicate, List.set_cons_zero, List.set_cons_succ, Option.some.injEq, Cell.lst.injEq, D.int.injEq, D.ref.injEq, D.tup.injEq, D.bl.injEq, exists_eq_left, exists_eq_left', exists_and_left, exists_and_right, exists_eq_right, exists_eq, and_true, true_and, sup_same, eq_ii, ng_f, ng_t, at0, at1, at2, at3, ix0, ix1, ix2, ix3, Nat.reduceAdd, Nat.reduceSub]
    refine hQ _ _ fr hn1 ?_
    rw [hc]
    unfold cnts
    rw [List.length_map, List.take_length, List.map_map]
    rfl
end K48


namespace K48
open PySem PySem.Spec PyProof.Rows L2 G

def AllIn (n : Int) (ls : List Int) : Prop := ∀ o ∈ ls, 0 ≤ o ∧ o < n
/-- _law_order -/
def spOrder : DSp := fun ds S Q => ∃ h many, ds = [.ref h, .int many] ∧ Hand S h ∧ 0 ≤ many ∧ many ≤ 1000 ∧ ∀ S' p os, Fr [h] S S' → Hand S' h → S p = none → S' p = some (.lst (os.map D.int)) → (os.length : Int) = many → AllIn many os → Q (.ref p) S'
theorem w_order (ds : List D) (S : Sto) (Q : QE) (hs : spOrder ds S Q) : ds.length = 2 ∧ wpSs ⟨[("_law_take", spTake)], []⟩ b_l_order ⟨fun _ S' => Q .non S', Q⟩ (startD 4 ds) S := by
  obtain ⟨h, many, rfl, hd, h1, h2, hQ⟩ := hs
  refine ⟨rfl, ?_⟩
  have hz : szL = 16777216 := rfl
  simp only [b_l_order, k_l_order_1, s_l_order_1, k_l_order_0, s_l_order_0, wpSp, wpSs, G.wpS, wpE, wpT, wpTs, wpI, wpEs, wpBin, wpCmp, wpLt, wpIx, wpBI, wpMI, tyMI, wpAug, parSet, asg_nm, asg_tp, asg_nil, asg_cons, wipeD, startD, SeqD, ListD, List.map_cons, List.map_nil, List.length_cons, List.length_nil, List.cons_append, List.nil_append, List.getElem?_cons_zero, List.getElem?_cons_succ, List.replicate, List.set_cons_zero, List.set_cons_succ, Option.some.injEq, Cell.lst.injEq, D.int.injEq, D.ref.injEq, D.tup.injEq, D.bl.injEq, exists_eq_left, exists_eq_left', exists_and_left, exists_and_right, exists_eq_right, exists_eq, and_true, true_and, sup_same, eq_ii, ng_f, ng_t, at0, at1, at2, at3, ix0, ix1, ix2, ix3, Nat.reduceAdd, Nat.reduceSub]
  refine ⟨by omega, by omega, fun p0 hp0 => ⟨by omega, by omega, ?_⟩⟩
  have hne : h ≠ p0 := hd.ne hp0
  have e0 : ((List.range many.toNat).map fun (i : Nat) => D.int (i : Int)) = ((List.range many.toNat).map fun (i : Nat) => (i : Int)).map D.int := by rw [List.map_map]; rfl
  refine lcRun_inv _ (fun i acc S1 => Fr [h] S S1 ∧ Hand S1 h ∧ ∃ os ls, acc = os.map D.int ∧ S1 p0 = some (.lst (ls.map D.int)) ∧ (ls.length : Int) = many - i ∧ os.length = i ∧ AllIn many os ∧ AllIn many ls)
    ⟨Fr.new hp0, hd.new hp0, [], _, rfl, by rw [sup_same, e0], by simp; omega, rfl, nofun, ?_⟩ (fun _ _ _ _ _ => trivial) (fun i x acc S1 N hx ⟨fr, hd1, os, ls, ha, hc, l1, l2, a1, a2⟩ hN => ?_) (fun acc S1 ⟨fr, hd1, os, ls, ha, hc, l1, l2, a1, a2⟩ p hp => ?_)
  · intro o ho
    obtain ⟨j, hj, rfl⟩ := List.mem_map.mp ho
    have := List.mem_range.mp hj
    omega
  · obtain ⟨rfl, hi⟩ := mem_range hx
    simp only [hc, wpSs, G.wpS, wpE, wpT, wpTs, wpI, wpEs, wpBin, wpCmp, wpLt, wpIx, wpBI, wpMI, tyMI, wpAug, parSet, asg_nm, asg_tp, asg_nil, asg_cons, wipeD, startD, SeqD, ListD, List.map_cons, List.map_nil, List.length_cons, List.length_nil, List.cons_append, List.nil_append, List.getElem?_cons_zero, List.getElem?_cons_succ, List.replicate, List.set_cons_zero, List.set_cons_succ, Option.some.injEq, Cell.lst.injEq, D.int.injEq, D.ref.injEq, D.tup.injEq, D.bl.injEq, exists_eq_left, exists_eq_left', exists_and_left, exists_and_right, exists_eq_right, exists_eq, and_true, true_and, sup_same, eq_ii, ng_f, ng_t, at0, at1, at2, at3, ix0, ix1, ix2, ix3, Nat.reduceAdd, Nat.reduceSub]
    have hil : (i : Int) < many := by omega
    refine ⟨⟨_, rfl⟩, h, _, rfl, hd1, by rw [List.length_map]; omega, by rw [List.length_map]; omega, fun S2 r fr2 hd2 r0 r1 => ?_⟩
    rw [List.length_map] at r1
    have hc2 : S2 p0 = some (.lst (ls.map D.int)) := fr2.at hc (by simpa using Ne.symm hne)
    have hrl : r.toNat < ls.length := by omega
    refine ⟨_, hc2, r0, .int ls[r.toNat], by rw [List.getElem?_map, List.getElem?_eq_getElem hrl]; rfl, hN _ _ ⟨(fr.trans fr2).put_new hp0, hd2.put hne, os ++ [ls[r.toNat]], ls.eraseIdx r.toNat, by rw [ha, List.map_append]; rfl, by rw [sup_same, map_erase], ?_, by simp [l2], ?_, ?_⟩⟩
    · rw [List.length_eraseIdx_of_lt hrl]; omega
    · intro o ho
      rcases List.mem_append.mp ho with ho | ho
      · exact a1 o ho
      · rw [List.mem_singleton.mp ho]; exact a2 _ (List.getElem_mem _)
    · exact fun o ho => a2 o (List.mem_of_mem_eraseIdx ho)
  · subst ha
    refine hQ _ _ os ((fr.trans (Fr.new hp))) (hd1.new hp) ?_ sup_same ?_ a1
    · cases e : S p with
      | none => rfl
      | some c =>
        have : p ≠ h := by
          intro e2
          subst e2
          obtain ⟨c', e'⟩ := hd1.some
          rw [e'] at hp; cases hp
        rw [fr p c (by simpa using this) e] at hp
        cases hp
    · rw [List.length_map, List.length_range] at l2
      omega

def pD (x : Int × Int) : D := .tup [.int x.1, .int x.2]
def PR (many : Int) (x : Int × Int) : Prop := 0 ≤ x.1 ∧ x.1 < many ∧ 0 ≤ x.2 ∧ x.2 < many
theorem emod_in (a : Int) {m : Int} (h : 0 < m) : 0 ≤ a % m ∧ a % m < m := ⟨Int.emod_nonneg _ (by omega), Int.emod_lt_of_pos _ h⟩
theorem fr_none {S S1 : Sto} {h p : Addr} (fr : Fr [h] S S1) (hd : Hand S1 h) (hp : S1 p = none) : S p = none := by
  refine fr.non (fun z => ?_) hp
  rw [List.mem_singleton.mp z] at hp
  obtain ⟨c, e⟩ := hd.some
  rw [e] at hp; cases hp
/-- ring, side, heap, crossed -/
def spPairs : DSp := fun ds S Q => ∃ h, ds = [.ref h] ∧ Hand S h ∧ ∀ (S' : Sto) (p : Addr) (many : Int) (ps : List (Int × Int)), Fr [h] S S' → Hand S' h → S p = none → S' p = some (.lst (ps.map pD)) → 1 ≤ many → many ≤ 20 → ps.length ≤ 250 → (∀ x ∈ ps, PR many x) → Q (.tup [.int many, .ref p]) S'
/-- the list as it grows -/
structure Grow (S : Sto) (h : Addr) (many : Int) (n : Nat) (S1 : Sto) (q : Addr) (ps : List (Int × Int)) : Prop where
  fr : Fr [h] S S1
  hd : Hand S1 h
  new : S q = none
  at_ : S1 q = some (.lst (ps.map pD))
  len : ps.length ≤ n
  pr : ∀ x ∈ ps, PR many x
theorem Grow.ne {S : Sto} {h : Addr} {many : Int} {n : Nat} {S1 : Sto} {q : Addr} {ps : List (Int × Int)} (g : Grow S h many n S1 q ps) (hd : Hand S h) : h ≠ q := hd.ne g.new
theorem Grow.call {S : Sto} {h : Addr} {many : Int} {n : Nat} {S1 S2 : Sto} {q : Addr} {ps : List (Int × Int)} (g : Grow S h many n S1 q ps) (hd : Hand S h) (fr : Fr [h] S1 S2) (hd2 : Hand S2 h) : Grow S h many n S2 q ps :=
  ⟨g.fr.trans fr, hd2, g.new, fr.at g.at_ (by simpa using Ne.symm (g.ne hd)), g.len, g.pr⟩
theorem Grow.fresh {S : Sto} {h : Addr} {many : Int} {S1 : Sto} {q : Addr} (fr : Fr [h] S S1) (hd : Hand S1 h) (n : S1 q = none) : Grow S h many 0 (sup S1 q (.lst [])) q [] :=
  ⟨fr.trans (Fr.new n), hd.new n, fr_none fr hd n, sup_same, Nat.le_refl _, nofun⟩
/-- found = found + [..] -/
theorem Grow.more {S : Sto} {h : Addr} {many : Int} {n m : Nat} {S1 : Sto} {q p1 p2 : Addr} {ps ts : List (Int × Int)} (g : Grow S h many n S1 q ps) (n1 : S1 p1 = none) (n2 : sup S1 p1 (.lst (List.map pD ts)) p2 = none) (hl : ts.length ≤ m) (hp : ∀ x ∈ ts, PR many x) :
    Grow S h many (n + m) (sup (sup S1 p1 (.lst (ts.map pD))) p2 (.lst (List.map pD (ps ++ ts)))) p2 (ps ++ ts) :=
  ⟨(g.fr.trans (Fr.new n1)).trans (Fr.new n2), (g.hd.new n1).new n2, fr_none (g.fr.trans (Fr.new n1)) (g.hd.new n1) n2, sup_same, by rw [List.length_append]; have := g.len; omega, fun x hx => (List.mem_append.mp hx).elim (g.pr x) (hp x)⟩
theorem Grow.weak {S : Sto} {h : Addr} {many : Int} {n m : Nat} {S1 : Sto} {q : Addr} {ps : List (Int × Int)} (g : Grow S h many n S1 q ps) (hl : n ≤ m) : Grow S h many m S1 q ps := ⟨g.fr, g.hd, g.new, g.at_, Nat.le_trans g.len hl, g.pr⟩
theorem w_ring (ds : List D) (S : Sto) (Q : QE) (hs : spPairs ds S Q) : ds.length = 1 ∧ wpSs ⟨[("_law_take", spTake)], []⟩ b_l_ring_pairs ⟨fun _ S' => Q .non S', Q⟩ (startD 6 ds) S := by
  obtain ⟨h, rfl, hd, hQ⟩ := hs
  refine ⟨rfl, ?_⟩
  have hz : szL = 16777216 := rfl
  simp only [b_l_ring_pairs, k_l_ring_pairs_6, s_l_ring_pairs_6, k_l_ring_pairs_5, s_l_ring_pairs_5, k_l_ring_pairs_4, s_l_ring_pairs_4, k_l_ring_pairs_3, s_l_ring_pairs_3, k_l_ring_pairs_2, s_l_ring_pairs_2, wpSs, G.wpS, wpE, wpT, wpTs, wpI, wpEs, wpBin, wpCmp, wpLt, wpIx, wpBI, wpMI, tyMI, wpAug, parSet, asg_nm, asg_tp, asg_nil, asg_cons, wipeD, startD, SeqD, ListD, List.map_cons, List.map_nil, List.length_cons, List.length_nil, List.cons_append, List.nil_append, List.getElem?_cons_zero, List.getElem?_cons_succ, List.replicate, List.set_cons_zero, List.set_cons_succ, Option.some.injEq, Cell.lst.injEq, D.int.injEq, D.ref.injEq, D.tup.injEq, D.bl.injEq, exists_eq_left, exists_eq_left', exists_and_left, exists_and_right, exists_eq_right, exists_eq, and_true, true_and, sup_same, eq_ii, ng_f, ng_t, at0, at1, at2, at3, ix0, ix1, ix2, ix3, Nat.reduceAdd, Nat.reduceSub]
  refine ⟨h, _, rfl, hd, by omega, by omega, fun S1 a fr1 hd1 a0 a1 => ?_⟩
  refine ⟨h, _, rfl, hd1, by omega, by omega, fun S2 b fr2 hd2 b0 b1 => ⟨by omega, fun q0 hq0 => ?_⟩⟩
  generalize hm : (3 : Int) + a = many
  have fr12 := fr1.trans fr2
  have hm1 : 3 ≤ many ∧ many ≤ 20 := by omega
  refine ⟨cdiv_ok (by omega) (by omega), by omega, by omega, ?_⟩
  refine forRun_inv _ (fun i ρ S3 => ∃ q ps x4, ρ = [some (D.ref h), some (D.int many), some (D.int (1 + b)), some (D.ref q), x4, none] ∧ Grow S h many (i * 20) S3 q ps)
    ⟨q0, [], _, rfl, (Grow.fresh fr12 hd2 hq0).weak (by omega)⟩ (fun _ _ _ _ _ => trivial) (fun i x ρ S3 N hx ⟨q, ps, x4, hρ, g⟩ hN => ?_) (fun ρ S3 ⟨q, ps, x4, hρ, g⟩ => ?_)
  · rw [List.getElem?_map] at hx
    cases hk : (List.range (many / 2 + 1 - 1).toNat)[i]? with
    | none => rw [hk] at hx; cases hx
    | some k =>
      rw [hk] at hx
      cases hx
      have hi : i < (many / 2 + 1 - 1).toNat := by
        obtain ⟨z, _⟩ := List.getElem?_eq_some_iff.mp hk
        simpa using z
      subst hρ
      simp only [k_l_ring_pairs_1, s_l_ring_pairs_1, k_l_ring_pairs_0, s_l_ring_pairs_0, wpSs, G.wpS, wpE, wpT, wpTs, wpI, wpEs, wpBin, wpCmp, wpLt, wpIx, wpBI, wpMI, tyMI, wpAug, parSet, asg_nm, asg_tp, asg_nil, asg_cons, wipeD, startD, SeqD, ListD, List.map_cons, List.map_nil, List.length_cons, List.length_nil, List.cons_append, List.nil_append, List.getElem?_cons_zero, List.getElem?_cons_succ, List.replicate, List.set_cons_zero, List.set_cons_succ, Option.some.injEq, Cell.lst.injEq, D.int.injEq, D.ref.injEq, D.tup.injEq, D.bl.injEq, exists_eq_left, exists_eq_left', exists_and_left, exists_and_right, exists_eq_right, exists_eq, and_true, true_and, sup_same, eq_ii, ng_f, ng_t, at0, at1, at2, at3, ix0, ix1, ix2, ix3, Nat.reduceAdd, Nat.reduceSub]
      refine ⟨h, _, rfl, g.hd, by omega, by omega, fun S4 r fr4 hd4 r0 r1 => ?_⟩
      have g4 := g.call hd fr4 hd4
      by_cases hr : r = 0
      · simp only [eq_ii, ng_f, hr, decide_true]
        refine ⟨by omega, by omega, ?_⟩
        refine lcRun_all (List.range many.toNat) (fun (j : Nat) => D.int (j : Int)) (fun (j : Nat) => pD ((j : Int), ((j : Int) + (1 + (k : Int))) % many)) trivial (fun j hj N' hN' => ?_) fun p1 hp1 => ?_
        · simp only [wpSs, G.wpS, wpE, wpT, wpTs, wpI, wpEs, wpBin, wpCmp, wpLt, wpIx, wpBI, wpMI, tyMI, wpAug, parSet, asg_nm, asg_tp, asg_nil, asg_cons, wipeD, startD, SeqD, ListD, List.map_cons, List.map_nil, List.length_cons, List.length_nil, List.cons_append, List.nil_append, List.getElem?_cons_zero, List.getElem?_cons_succ, List.replicate, List.set_cons_zero, List.set_cons_succ, Option.some.injEq, Cell.lst.injEq, D.int.injEq, D.ref.injEq, D.tup.injEq, D.bl.injEq, exists_eq_left, exists_eq_left', exists_and_left, exists_and_right, exists_eq_right, exists_eq, and_true, true_and, sup_same, eq_ii, ng_f, ng_t, at0, at1, at2, at3, ix0, ix1, ix2, ix3, Nat.reduceAdd, Nat.reduceSub]
          exact ⟨by omega, by omega, hN'⟩
        · have e : ((List.range many.toNat).map fun (j : Nat) => pD ((j : Int), ((j : Int) + (1 + (k : Int))) % many)) = (((List.range many.toNat).map fun (j : Nat) => ((j : Int), ((j : Int) + (1 + (k : Int))) % many))).map pD := by rw [List.map_map]; rfl
          rw [e]
          have hlt : (((List.range many.toNat).map fun (j : Nat) => ((j : Int), ((j : Int) + (1 + (k : Int))) % many))).length ≤ 20 := by simp; omega
          refine ⟨_, sup_old g4.at_ hp1, by rw [List.length_map, List.length_map]; have := g4.len; omega, fun p2 hp2 => ?_⟩
          rw [← List.map_append]
          refine hN _ _ ⟨p2, _, _, rfl, (g4.more (m := 20) hp1 hp2 hlt ?_).weak (by omega)⟩
          intro x hx
          obtain ⟨j, hj, rfl⟩ := List.mem_map.mp hx
          have hj' := List.mem_range.mp hj
          have em := emod_in ((j : Int) + (1 + (k : Int))) (show 0 < many by omega)
          exact ⟨by simp, by show (j : Int) < many; omega, em.1, em.2⟩
      · simp only [eq_ii, ng_f, hr, decide_false]
        exact hN _ _ ⟨q, ps, _, rfl, g4.weak (by omega)⟩
  · subst hρ
    simp only [wpSs, G.wpS, wpE, wpT, wpTs, wpI, wpEs, wpBin, wpCmp, wpLt, wpIx, wpBI, wpMI, tyMI, wpAug, parSet, asg_nm, asg_tp, asg_nil, asg_cons, wipeD, startD, SeqD, ListD, List.map_cons, List.map_nil, List.length_cons, List.length_nil, List.cons_append, List.nil_append, List.getElem?_cons_zero, List.getElem?_cons_succ, List.replicate, List.set_cons_zero, List.set_cons_succ, Option.some.injEq, Cell.lst.injEq, D.int.injEq, D.ref.injEq, D.tup.injEq, D.bl.injEq, exists_eq_left, exists_eq_left', exists_and_left, exists_and_right, exists_eq_right, exists_eq, and_true, true_and, sup_same, eq_ii, ng_f, ng_t, at0, at1, at2, at3, ix0, ix1, ix2, ix3, Nat.reduceAdd, Nat.reduceSub]
    refine ⟨by omega, hQ _ q many ps g.fr g.hd g.new g.at_ (by omega) (by omega) ?_ g.pr⟩
    have := g.len
    simp only [List.length_map, List.length_range] at this
    omega
end K48


namespace K48
open PySem PySem.Spec PyProof.Rows L2 G

theorem map_pD {n : Nat} (f : Nat → Int × Int) : ((List.range n).map fun (j : Nat) => pD (f j)) = ((List.range n).map f).map pD := by rw [List.map_map]; rfl
theorem w_side (ds : List D) (S : Sto) (Q : QE) (hs : spPairs ds S Q) : ds.length = 1 ∧ wpSs ⟨[("_law_take", spTake)], []⟩ b_l_side_pairs ⟨fun _ S' => Q .non S', Q⟩ (startD 6 ds) S := by
  obtain ⟨h, rfl, hd, hQ⟩ := hs
  refine ⟨rfl, ?_⟩
  have hz : szL = 16777216 := rfl
  simp only [b_l_side_pairs, k_l_side_pairs_6, s_l_side_pairs_6, k_l_side_pairs_5, s_l_side_pairs_5, k_l_side_pairs_4, s_l_side_pairs_4, k_l_side_pairs_3, s_l_side_pairs_3, k_l_side_pairs_2, s_l_side_pairs_2, wpSs, G.wpS, wpE, wpT, wpTs, wpI, wpEs, wpBin, wpCmp, wpLt, wpIx, wpBI, wpMI, tyMI, wpAug, parSet, asg_nm, asg_tp, asg_nil, asg_cons, wipeD, startD, SeqD, ListD, List.map_cons, List.map_nil, List.length_cons, List.length_nil, List.cons_append, List.nil_append, List.getElem?_cons_zero, List.getElem?_cons_succ, List.replicate, List.set_cons_zero, List.set_cons_succ, Option.some.injEq, Cell.lst.injEq, D.int.injEq, D.ref.injEq, D.tup.injEq, D.bl.injEq, exists_eq_left, exists_eq_left', exists_and_left, exists_and_right, exists_eq_right, exists_eq, and_true, true_and, sup_same, eq_ii, ng_f, ng_t, at0, at1, at2, at3, ix0, ix1, ix2, ix3, Nat.reduceAdd, Nat.reduceSub]
  refine ⟨h, _, rfl, hd, by omega, by omega, fun S1 a fr1 hd1 a0 a1 => ?_⟩
  refine ⟨h, _, rfl, hd1, by omega, by omega, fun S2 b fr2 hd2 b0 b1 => ⟨by omega, fun q0 hq0 => ?_⟩⟩
  try dsimp only
  generalize hm : (1 : Int) + a = half
  have fr12 := fr1.trans fr2
  have hm1 : 1 ≤ half ∧ half ≤ 10 := by omega
  refine ⟨by omega, by omega, ?_⟩
  refine forRun_inv _ (fun i ρ S3 => ∃ q ps x4, ρ = [some (D.ref h), some (D.int half), some (D.int (1 + b)), some (D.ref q), x4, none] ∧ Grow S h (2 * half) (i * 10) S3 q ps)
    ⟨q0, [], _, rfl, (Grow.fresh fr12 hd2 hq0).weak (by omega)⟩ (fun _ _ _ _ _ => trivial) (fun i x ρ S3 N hx ⟨q, ps, x4, hρ, g⟩ hN => ?_) (fun ρ S3 ⟨q, ps, x4, hρ, g⟩ => ?_)
  · obtain ⟨rfl, hi⟩ := mem_range hx
    subst hρ
    simp only [k_l_side_pairs_1, s_l_side_pairs_1, k_l_side_pairs_0, s_l_side_pairs_0, wpSs, G.wpS, wpE, wpT, wpTs, wpI, wpEs, wpBin, wpCmp, wpLt, wpIx, wpBI, wpMI, tyMI, wpAug, parSet, asg_nm, asg_tp, asg_nil, asg_cons, wipeD, startD, SeqD, ListD, List.map_cons, List.map_nil, List.length_cons, List.length_nil, List.cons_append, List.nil_append, List.getElem?_cons_zero, List.getElem?_cons_succ, List.replicate, List.set_cons_zero, List.set_cons_succ, Option.some.injEq, Cell.lst.injEq, D.int.injEq, D.ref.injEq, D.tup.injEq, D.bl.injEq, exists_eq_left, exists_eq_left', exists_and_left, exists_and_right, exists_eq_right, exists_eq, and_true, true_and, sup_same, eq_ii, ng_f, ng_t, at0, at1, at2, at3, ix0, ix1, ix2, ix3, Nat.reduceAdd, Nat.reduceSub]
    refine ⟨h, _, rfl, g.hd, by omega, by omega, fun S4 r fr4 hd4 r0 r1 => ?_⟩
    have g4 := g.call hd fr4 hd4
    by_cases hr : r = 0
    · simp only [eq_ii, ng_f, hr, decide_true]
      refine ⟨by omega, by omega, ?_⟩
      refine lcRun_all (List.range half.toNat) (fun (j : Nat) => D.int (j : Int)) (fun (j : Nat) => pD ((j : Int), half + ((j : Int) + (i : Int)) % half)) trivial (fun j hj N' hN' => ?_) fun p1 hp1 => ?_
      · simp only [wpSs, G.wpS, wpE, wpT, wpTs, wpI, wpEs, wpBin, wpCmp, wpLt, wpIx, wpBI, wpMI, tyMI, wpAug, parSet, asg_nm, asg_tp, asg_nil, asg_cons, wipeD, startD, SeqD, ListD, List.map_cons, List.map_nil, List.length_cons, List.length_nil, List.cons_append, List.nil_append, List.getElem?_cons_zero, List.getElem?_cons_succ, List.replicate, List.set_cons_zero, List.set_cons_succ, Option.some.injEq, Cell.lst.injEq, D.int.injEq, D.ref.injEq, D.tup.injEq, D.bl.injEq, exists_eq_left, exists_eq_left', exists_and_left, exists_and_right, exists_eq_right, exists_eq, and_true, true_and, sup_same, eq_ii, ng_f, ng_t, at0, at1, at2, at3, ix0, ix1, ix2, ix3, Nat.reduceAdd, Nat.reduceSub]
        exact ⟨by omega, by omega, hN'⟩
      · rw [map_pD]
        have hlt : ((List.range half.toNat).map fun (j : Nat) => ((j : Int), half + ((j : Int) + (i : Int)) % half)).length ≤ 10 := by simp; omega
        refine ⟨_, sup_old g4.at_ hp1, by rw [List.length_map, List.length_map]; have := g4.len; omega, fun p2 hp2 => ?_⟩
        rw [← List.map_append]
        refine hN _ _ ⟨p2, _, _, rfl, (g4.more (m := 10) hp1 hp2 hlt ?_).weak (by omega)⟩
        intro x hx
        obtain ⟨j, hj, rfl⟩ := List.mem_map.mp hx
        have hj' := List.mem_range.mp hj
        have em := emod_in ((j : Int) + (i : Int)) (show 0 < half by omega)
        exact ⟨by simp, by show (j : Int) < 2 * half; omega, by show 0 ≤ half + ((j : Int) + (i : Int)) % half; omega, by show half + ((j : Int) + (i : Int)) % half < 2 * half; omega⟩
    · simp only [eq_ii, ng_f, hr, decide_false]
      exact hN _ _ ⟨q, ps, _, rfl, g4.weak (by omega)⟩
  · subst hρ
    simp only [wpSs, G.wpS, wpE, wpT, wpTs, wpI, wpEs, wpBin, wpCmp, wpLt, wpIx, wpBI, wpMI, tyMI, wpAug, parSet, asg_nm, asg_tp, asg_nil, asg_cons, wipeD, startD, SeqD, ListD, List.map_cons, List.map_nil, List.length_cons, List.length_nil, List.cons_append, List.nil_append, List.getElem?_cons_zero, List.getElem?_cons_succ, List.replicate, List.set_cons_zero, List.set_cons_succ, Option.some.injEq, Cell.lst.injEq, D.int.injEq, D.ref.injEq, D.tup.injEq, D.bl.injEq, exists_eq_left, exists_eq_left', exists_and_left, exists_and_right, exists_eq_right, exists_eq, and_true, true_and, sup_same, eq_ii, ng_f, ng_t, at0, at1, at2, at3, ix0, ix1, ix2, ix3, Nat.reduceAdd, Nat.reduceSub]
    have z : (2 : Int) ^ 64 = 18446744073709551616 := by decide
    refine ⟨cmul_l (by omega) (by omega), by omega, hQ _ q (2 * half) ps g.fr g.hd g.new g.at_ (by omega) (by omega) ?_ g.pr⟩
    have := g.len
    simp only [List.length_map, List.length_range] at this
    omega
theorem heap_le {s n k : Int} (hs : 0 < s) (hk : k < s * n) : k - k % s + s ≤ s * n := by
  have e := Int.mul_ediv_add_emod k s
  have h1 : k / s < n := by
    refine Int.ediv_lt_of_lt_mul hs ?_
    rw [Int.mul_comm]; exact hk
  have h2 : s * (k / s + 1) ≤ s * n := Int.mul_le_mul_of_nonneg_left (by omega) (by omega)
  rw [Int.mul_add, Int.mul_one] at h2
  omega
theorem heap_20 {s n : Int} (hs : 0 < s) (hn : n ≤ 20 / s) : s * n ≤ 20 := by
  have h2 : s * n ≤ s * (20 / s) := Int.mul_le_mul_of_nonneg_left hn (by omega)
  have := Int.mul_ediv_self_le (x := 20) (k := s) (by omega)
  omega
theorem w_heap (ds : List D) (S : Sto) (Q : QE) (hs : spPairs ds S Q) : ds.length = 1 ∧ wpSs ⟨[("_law_take", spTake)], []⟩ b_l_heap_pairs ⟨fun _ S' => Q .non S', Q⟩ (startD 6 ds) S := by
  obtain ⟨h, rfl, hd, hQ⟩ := hs
  refine ⟨rfl, ?_⟩
  have hz : szL = 16777216 := rfl
  have z : (2 : Int) ^ 64 = 18446744073709551616 := by decide
  simp only [b_l_heap_pairs, k_l_heap_pairs_5, s_l_heap_pairs_5, k_l_heap_pairs_4, s_l_heap_pairs_4, k_l_heap_pairs_3, s_l_heap_pairs_3, k_l_heap_pairs_2, s_l_heap_pairs_2, k_l_heap_pairs_1, s_l_heap_pairs_1, wpSs, G.wpS, wpE, wpT, wpTs, wpI, wpEs, wpBin, wpCmp, wpLt, wpIx, wpBI, wpMI, tyMI, wpAug, parSet, asg_nm, asg_tp, asg_nil, asg_cons, wipeD, startD, SeqD, ListD, List.map_cons, List.map_nil, List.length_cons, List.length_nil, List.cons_append, List.nil_append, List.getElem?_cons_zero, List.getElem?_cons_succ, List.replicate, List.set_cons_zero, List.set_cons_succ, Option.some.injEq, Cell.lst.injEq, D.int.injEq, D.ref.injEq, D.tup.injEq, D.bl.injEq, exists_eq_left, exists_eq_left', exists_and_left, exists_and_right, exists_eq_right, exists_eq, and_true, true_and, sup_same, eq_ii, ng_f, ng_t, at0, at1, at2, at3, ix0, ix1, ix2, ix3, Nat.reduceAdd, Nat.reduceSub]
  refine ⟨h, _, rfl, hd, by omega, by omega, fun S1 a fr1 hd1 a0 a1 => ?_⟩
  try dsimp only
  generalize hm : (1 : Int) + a = size
  have hm1 : 1 ≤ size ∧ size ≤ 7 := by omega
  have hq1 : 2 ≤ 20 / size := by
    have : size = 1 ∨ size = 2 ∨ size = 3 ∨ size = 4 ∨ size = 5 ∨ size = 6 ∨ size = 7 := by omega
    rcases this with e | e | e | e | e | e | e <;> subst e <;> decide
  have hq2 : 20 / size ≤ 20 := Int.ediv_le_self _ (by omega)
  refine ⟨cdiv_ok (by omega) (by omega), ?_⟩
  rw [if_pos (by omega)]
  refine ⟨h, _, rfl, hd1, by omega, by omega, fun S2 b fr2 hd2 b0 b1 => ⟨by omega, fun q0 hq0 => ?_⟩⟩
  try dsimp only
  generalize hn : (1 : Int) + b = heaps
  have h20 : size * heaps ≤ 20 := heap_20 (by omega) (by omega)
  have hpos : 1 ≤ size * heaps := by
    have := Int.mul_le_mul (a := 1) (b := 1) hm1.1 (show 1 ≤ heaps by omega) (by omega) (by omega)
    omega
  have fr12 := fr1.trans fr2
  refine ⟨cmul_l (by omega) (by omega), by omega, by omega, ?_⟩
  refine forRun_inv _ (fun i ρ S3 => ∃ q ps x4, ρ = [some (D.ref h), some (D.int size), some (D.int heaps), some (D.ref q), x4, none] ∧ Grow S h (size * heaps) (i * 7) S3 q ps)
    ⟨q0, [], _, rfl, (Grow.fresh fr12 hd2 hq0).weak (by omega)⟩ (fun _ _ _ _ _ => trivial) (fun i x ρ S3 N hx ⟨q, ps, x4, hρ, g⟩ hN => ?_) (fun ρ S3 ⟨q, ps, x4, hρ, g⟩ => ?_)
  · obtain ⟨rfl, hi⟩ := mem_range hx
    subst hρ
    have hile : (i : Int) < size * heaps := by omega
    have hb := heap_le (by omega) hile
    have em := emod_in (i : Int) (show 0 < size by omega)
    simp only [k_l_heap_pairs_0, s_l_heap_pairs_0, wpSs, G.wpS, wpE, wpT, wpTs, wpI, wpEs, wpBin, wpCmp, wpLt, wpIx, wpBI, wpMI, tyMI, wpAug, parSet, asg_nm, asg_tp, asg_nil, asg_cons, wipeD, startD, SeqD, ListD, List.map_cons, List.map_nil, List.length_cons, List.length_nil, List.cons_append, List.nil_append, List.getElem?_cons_zero, List.getElem?_cons_succ, List.replicate, List.set_cons_zero, List.set_cons_succ, Option.some.injEq, Cell.lst.injEq, D.int.injEq, D.ref.injEq, D.tup.injEq, D.bl.injEq, exists_eq_left, exists_eq_left', exists_and_left, exists_and_right, exists_eq_right, exists_eq, and_true, true_and, sup_same, eq_ii, ng_f, ng_t, at0, at1, at2, at3, ix0, ix1, ix2, ix3, Nat.reduceAdd, Nat.reduceSub]
    refine ⟨by omega, by omega, by omega, ?_⟩
    generalize hc : ((i : Int) - (i : Int) % size + size - ((i : Int) + 1)).toNat = c
    refine lcRun_all (List.range c) (fun (j : Nat) => D.int ((i : Int) + 1 + (j : Int))) (fun (j : Nat) => pD ((i : Int), (i : Int) + 1 + (j : Int))) trivial (fun j hj N' hN' => ?_) fun p1 hp1 => ?_
    · exact ⟨by omega, hN'⟩
    · rw [map_pD]
      have hlt : ((List.range c).map fun (j : Nat) => ((i : Int), (i : Int) + 1 + (j : Int))).length ≤ 7 := by simp; omega
      refine ⟨_, sup_old g.at_ hp1, by rw [List.length_map, List.length_map]; have := g.len; omega, fun p2 hp2 => ?_⟩
      rw [← List.map_append]
      refine hN _ _ ⟨p2, _, _, rfl, (g.more (m := 7) hp1 hp2 hlt ?_).weak (by omega)⟩
      intro x hx
      obtain ⟨j, hj, rfl⟩ := List.mem_map.mp hx
      have hj' := List.mem_range.mp hj
      exact ⟨by simp, by show (i : Int) < _; omega, by show 0 ≤ (i : Int) + 1 + (j : Int); omega, by show (i : Int) + 1 + (j : Int) < _; omega⟩
  · subst hρ
    simp only [wpSs, G.wpS, wpE, wpT, wpTs, wpI, wpEs, wpBin, wpCmp, wpLt, wpIx, wpBI, wpMI, tyMI, wpAug, parSet, asg_nm, asg_tp, asg_nil, asg_cons, wipeD, startD, SeqD, ListD, List.map_cons, List.map_nil, List.length_cons, List.length_nil, List.cons_append, List.nil_append, List.getElem?_cons_zero, List.getElem?_cons_succ, List.replicate, List.set_cons_zero, List.set_cons_succ, Option.some.injEq, Cell.lst.injEq, D.int.injEq, D.ref.injEq, D.tup.injEq, D.bl.injEq, exists_eq_left, exists_eq_left', exists_and_left, exists_and_right, exists_eq_right, exists_eq, and_true, true_and, sup_same, eq_ii, ng_f, ng_t, at0, at1, at2, at3, ix0, ix1, ix2, ix3, Nat.reduceAdd, Nat.reduceSub]
    refine ⟨cmul_l (by omega) (by omega), by omega, hQ _ q (size * heaps) ps g.fr g.hd g.new g.at_ (by omega) (by omega) ?_ g.pr⟩
    have := g.len
    simp only [List.length_map, List.length_range] at this
    omega
theorem w_crossed (ds : List D) (S : Sto) (Q : QE) (hs : spPairs ds S Q) : ds.length = 1 ∧ wpSs ⟨[("_law_take", spTake)], []⟩ b_l_crossed_pairs ⟨fun _ S' => Q .non S', Q⟩ (startD 5 ds) S := by
  obtain ⟨h, rfl, hd, hQ⟩ := hs
  refine ⟨rfl, ?_⟩
  have hz : szL = 16777216 := rfl
  have z : (2 : Int) ^ 64 = 18446744073709551616 := by decide
  simp only [b_l_crossed_pairs, k_l_crossed_pairs_5, s_l_crossed_pairs_5, k_l_crossed_pairs_4, s_l_crossed_pairs_4, k_l_crossed_pairs_3, s_l_crossed_pairs_3, k_l_crossed_pairs_2, s_l_crossed_pairs_2, k_l_crossed_pairs_1, s_l_crossed_pairs_1, wpSs, G.wpS, wpE, wpT, wpTs, wpI, wpEs, wpBin, wpCmp, wpLt, wpIx, wpBI, wpMI, tyMI, wpAug, parSet, asg_nm, asg_tp, asg_nil, asg_cons, wipeD, startD, SeqD, ListD, List.map_cons, List.map_nil, List.length_cons, List.length_nil, List.cons_append, List.nil_append, List.getElem?_cons_zero, List.getElem?_cons_succ, List.replicate, List.set_cons_zero, List.set_cons_succ, Option.some.injEq, Cell.lst.injEq, D.int.injEq, D.ref.injEq, D.tup.injEq, D.bl.injEq, exists_eq_left, exists_eq_left', exists_and_left, exists_and_right, exists_eq_right, exists_eq, and_true, true_and, sup_same, eq_ii, ng_f, ng_t, at0, at1, at2, at3, ix0, ix1, ix2, ix3, Nat.reduceAdd, Nat.reduceSub]
  refine ⟨h, _, rfl, hd, by omega, by omega, fun S1 a fr1 hd1 a0 a1 => ?_⟩
  try dsimp only
  generalize hm : (3 : Int) + a = half
  have hm1 : 3 ≤ half ∧ half ≤ 10 := by omega
  refine ⟨cdiv_ok (by omega) (by omega), h, _, rfl, hd1, by omega, by omega, fun S2 b fr2 hd2 b0 b1 => ⟨by omega, fun q0 hq0 => ?_⟩⟩
  have fr12 := fr1.trans fr2
  refine ⟨by omega, by omega, ?_⟩
  refine forRun_inv _ (fun i ρ S3 => ∃ q ps x4, ρ = [some (D.ref h), some (D.int half), some (D.int (1 + b)), some (D.ref q), x4] ∧ Grow S h (2 * half) (i * 3) S3 q ps)
    ⟨q0, [], _, rfl, (Grow.fresh fr12 hd2 hq0).weak (by omega)⟩ (fun _ _ _ _ _ => trivial) (fun i x ρ S3 N hx ⟨q, ps, x4, hρ, g⟩ hN => ?_) (fun ρ S3 ⟨q, ps, x4, hρ, g⟩ => ?_)
  · obtain ⟨rfl, hi⟩ := mem_range hx
    subst hρ
    have e1 := emod_in ((i : Int) + 1) (show 0 < half by omega)
    have e2 := emod_in ((i : Int) + (1 + b)) (show 0 < half by omega)
    simp only [k_l_crossed_pairs_0, s_l_crossed_pairs_0, wpSs, G.wpS, wpE, wpT, wpTs, wpI, wpEs, wpBin, wpCmp, wpLt, wpIx, wpBI, wpMI, tyMI, wpAug, parSet, asg_nm, asg_tp, asg_nil, asg_cons, wipeD, startD, SeqD, ListD, List.map_cons, List.map_nil, List.length_cons, List.length_nil, List.cons_append, List.nil_append, List.getElem?_cons_zero, List.getElem?_cons_succ, List.replicate, List.set_cons_zero, List.set_cons_succ, Option.some.injEq, Cell.lst.injEq, D.int.injEq, D.ref.injEq, D.tup.injEq, D.bl.injEq, exists_eq_left, exists_eq_left', exists_and_left, exists_and_right, exists_eq_right, exists_eq, and_true, true_and, sup_same, eq_ii, ng_f, ng_t, at0, at1, at2, at3, ix0, ix1, ix2, ix3, Nat.reduceAdd, Nat.reduceSub]
    refine ⟨by omega, by omega, by omega, by omega, by omega, by omega, fun p1 hp1 => ?_⟩
    have el : [D.tup [.int (i : Int), .int (((i : Int) + 1) % half)], .tup [.int (i : Int), .int (half + (i : Int))], .tup [.int (half + (i : Int)), .int (half + ((i : Int) + (1 + b)) % half)]] = [((i : Int), ((i : Int) + 1) % half), ((i : Int), half + (i : Int)), (half + (i : Int), half + ((i : Int) + (1 + b)) % half)].map pD := rfl
    rw [el]
    refine ⟨_, sup_old g.at_ hp1, by have := g.len; simp; omega, fun p2 hp2 => ?_⟩
    rw [← List.map_append]
    refine hN _ _ ⟨p2, _, _, rfl, (g.more (m := 3) hp1 hp2 (by simp) ?_).weak (by omega)⟩
    intro x hx
    simp only [List.mem_cons, List.not_mem_nil, or_false] at hx
    rcases hx with rfl | rfl | rfl
    · exact ⟨by simp, by show (i : Int) < 2 * half; omega, e1.1, by show ((i : Int) + 1) % half < 2 * half; omega⟩
    · exact ⟨by simp, by show (i : Int) < 2 * half; omega, by show 0 ≤ half + (i : Int); omega, by show half + (i : Int) < 2 * half; omega⟩
    · exact ⟨by show 0 ≤ half + (i : Int); omega, by show half + (i : Int) < 2 * half; omega, by show 0 ≤ half + ((i : Int) + (1 + b)) % half; omega, by show half + ((i : Int) + (1 + b)) % half < 2 * half; omega⟩
  · subst hρ
    simp only [wpSs, G.wpS, wpE, wpT, wpTs, wpI, wpEs, wpBin, wpCmp, wpLt, wpIx, wpBI, wpMI, tyMI, wpAug, parSet, asg_nm, asg_tp, asg_nil, asg_cons, wipeD, startD, SeqD, ListD, List.map_cons, List.map_nil, List.length_cons, List.length_nil, List.cons_append, List.nil_append, List.getElem?_cons_zero, List.getElem?_cons_succ, List.replicate, List.set_cons_zero, List.set_cons_succ, Option.some.injEq, Cell.lst.injEq, D.int.injEq, D.ref.injEq, D.tup.injEq, D.bl.injEq, exists_eq_left, exists_eq_left', exists_and_left, exists_and_right, exists_eq_right, exists_eq, and_true, true_and, sup_same, eq_ii, ng_f, ng_t, at0, at1, at2, at3, ix0, ix1, ix2, ix3, Nat.reduceAdd, Nat.reduceSub]
    refine ⟨cmul_l (by omega) (by omega), by omega, hQ _ q (2 * half) ps g.fr g.hd g.new g.at_ (by omega) (by omega) ?_ g.pr⟩
    have := g.len
    simp only [List.length_map, List.length_range] at this
    omega
def lowP (a b : Int) : Int × Int := (if b < a then b else a, if b > a then b else a)
/-- _law_low_first -/
def spLow : DSp := fun ds S Q => ∃ a b, ds = [.int a, .int b] ∧ Q (pD (lowP a b)) S
theorem w_low (ds : List D) (S : Sto) (Q : QE) (hs : spLow ds S Q) : ds.length = 2 ∧ wpSs ⟨[], []⟩ b_l_low_first ⟨fun _ S' => Q .non S', Q⟩ (startD 2 ds) S := by
  obtain ⟨a, b, rfl, hQ⟩ := hs
  refine ⟨rfl, ?_⟩
  have hz : szL = 16777216 := rfl
  simp only [b_l_low_first, k_l_low_first_0, s_l_low_first_0, wpSs, G.wpS, wpE, wpT, wpTs, wpI, wpEs, wpBin, wpCmp, wpLt, wpIx, wpBI, wpMI, tyMI, wpAug, parSet, asg_nm, asg_tp, asg_nil, asg_cons, wipeD, startD, SeqD, ListD, List.map_cons, List.map_nil, List.length_cons, List.length_nil, List.cons_append, List.nil_append, List.getElem?_cons_zero, List.getElem?_cons_succ, List.replicate, List.set_cons_zero, List.set_cons_succ, Option.some.injEq, Cell.lst.injEq, D.int.injEq, D.ref.injEq, D.tup.injEq, D.bl.injEq, exists_eq_left, exists_eq_left', exists_and_left, exists_and_right, exists_eq_right, exists_eq, and_true, true_and, sup_same, eq_ii, ng_f, ng_t, at0, at1, at2, at3, ix0, ix1, ix2, ix3, Nat.reduceAdd, Nat.reduceSub]
  exact ⟨by omega, hQ⟩
theorem low_in {many a b : Int} (ha : 0 ≤ a ∧ a < many) (hb : 0 ≤ b ∧ b < many) : PR many (lowP a b) := by
  unfold lowP PR
  simp only
  split <;> split <;> omega
end K48


namespace K48
open PySem PySem.Spec PyProof.Rows L2 G

section
variable {S : Sto} {Q : QE} {neg : Bool} {a : Addr} {ps : List (Int × Int)} {x y z : Int × Int}
theorem rows_pD (ps : List (Int × Int)) : ps.map pD = (ps.map fun x => [x.1, x.2]).map rowI := by rw [List.map_map]; rfl
theorem in_pairs (h : S a = some (.lst (ps.map pD))) (q : ∀ b, Q (.bl b) S) : wpIn neg (pD x) (.ref a) S Q :=
  in_rows (rs := ps.map fun x => [x.1, x.2]) (r := [x.1, x.2]) (by rw [h, rows_pD]) (q _)
theorem in_two (q : ∀ b, Q (.bl b) S) : wpIn neg (pD x) (.tup [pD y, pD z]) S Q :=
  in_rowsT (rs := [[y.1, y.2], [z.1, z.2]]) (r := [x.1, x.2]) (q _)
end
theorem at_pairs {ps : List (Int × Int)} {r : Int} (h0 : 0 ≤ r) (h1 : r < ps.length) : ∃ x, x ∈ ps ∧ atI (ps.map pD) r = some (pD x) := by
  refine ⟨ps[r.toNat], List.getElem_mem _, ?_⟩
  rw [atP h0, List.getElem?_map, List.getElem?_eq_getElem (by omega)]; rfl
def PairsAt (S : Sto) (h q : Addr) (many : Int) (n : Nat) (ps : List (Int × Int)) : Prop := S q = some (.lst (ps.map pD)) ∧ h ≠ q ∧ ps.length ≤ n ∧ ∀ x ∈ ps, PR many x
theorem PairsAt.fr {S S1 : Sto} {h q : Addr} {many : Int} {n : Nat} {ps : List (Int × Int)} (p : PairsAt S h q many n ps) (fr : Fr [h] S S1) : PairsAt S1 h q many n ps :=
  ⟨fr.at p.1 (by simpa using Ne.symm p.2.1), p.2⟩
theorem PairsAt.new {S : Sto} {h q p1 : Addr} {c : Cell} {many : Int} {n : Nat} {ps : List (Int × Int)} (p : PairsAt S h q many n ps) (n1 : S p1 = none) : PairsAt (sup S p1 c) h q many n ps :=
  ⟨sup_old p.1 n1, p.2⟩
/-- _law_switched -/
def spSwitched : DSp := fun ds S Q => ∃ (h q : Addr) (many : Int) (ps : List (Int × Int)), ds = [.ref h, .ref q] ∧ Hand S h ∧ PairsAt S h q many 900 ps ∧ ps ≠ [] ∧
  ∀ (S' : Sto) (q' : Addr) (ps' : List (Int × Int)), Fr [h] S S' → Hand S' h → PairsAt S' h q' many (ps.length + 2) ps' → ps' ≠ [] → Q (.ref q') S'
theorem sw_end (h q : Addr) (many : Int) (ps : List (Int × Int)) (S : Sto) (Q : QE) (hd : Hand S h) (hp : PairsAt S h q many 900 ps) (hne : ps ≠ []) (d0 d4 : D) (x y : Int × Int) (a b c d : Int) (hx : 0 ≤ a ∧ a < many) (hy : 0 ≤ b ∧ b < many) (hz : 0 ≤ c ∧ c < many) (hw : 0 ≤ d ∧ d < many)
    (hQ : ∀ (S' : Sto) (q' : Addr) (ps' : List (Int × Int)), Fr [h] S S' → Hand S' h → PairsAt S' h q' many (ps.length + 2) ps' → ps' ≠ [] → Q (.ref q') S') :
    wpSs ⟨[("_law_take", spTake), ("_law_low_first", spLow)], []⟩ k_l_switched_3 ⟨fun _ S' => Q .non S', Q⟩ [some d0, some (.ref q), some (pD x), some (pD y), some d4, some (.int a), some (.int b), some (.int c), some (.int d), none, none] S := by
  have hsz : szL = 16777216 := rfl
  simp only [k_l_switched_3, s_l_switched_3, k_l_switched_2, s_l_switched_2, k_l_switched_1, s_l_switched_1, k_l_switched_0, s_l_switched_0, wpSp, wpSs, G.wpS, wpE, wpT, wpTs, wpI, wpEs, wpBin, wpCmp, wpLt, wpIx, wpBI, wpMI, tyMI, wpAug, parSet, asg_nm, asg_tp, asg_nil, asg_cons, wipeD, startD, SeqD, ListD, List.map_cons, List.map_nil, List.length_cons, List.length_nil, List.cons_append, List.nil_append, List.getElem?_cons_zero, List.getElem?_cons_succ, List.replicate, List.set_cons_zero, List.set_cons_succ, Option.some.injEq, Cell.lst.injEq, D.int.injEq, D.ref.injEq, D.tup.injEq, D.bl.injEq, exists_eq_left, exists_eq_left', exists_and_left, exists_and_right, exists_eq_right, exists_eq, and_true, true_and, sup_same, eq_ii, ng_f, ng_t, at0, at1, at2, at3, ix0, ix1, ix2, ix3, Nat.reduceAdd, Nat.reduceSub]
  refine ⟨a, c, rfl, b, d, rfl, by omega, fun p1 hp1 => ⟨by omega, fun p2 hp2 => ?_⟩⟩
  have h12 := (hp.new (c := .lst [pD (lowP a c), pD (lowP b d)]) hp1).new (c := .lst [.int a, .int b, .int c, .int d]) hp2
  have hd12 := (hd.new (c := .lst [pD (lowP a c), pD (lowP b d)]) hp1).new (c := .lst [.int a, .int b, .int c, .int d]) hp2
  have fr12 : Fr [h] S (sup (sup S p1 (.lst [pD (lowP a c), pD (lowP b d)])) p2 (.lst [.int a, .int b, .int c, .int d])) := (Fr.new hp1).trans (Fr.new hp2)
  have e1 : sup (sup S p1 (.lst [pD (lowP a c), pD (lowP b d)])) p2 (.lst [.int a, .int b, .int c, .int d]) p1 = some (.lst [pD (lowP a c), pD (lowP b d)]) := sup_old sup_same hp2
  generalize sup (sup S p1 (.lst [pD (lowP a c), pD (lowP b d)])) p2 (.lst [.int a, .int b, .int c, .int d]) = S2 at *
  have same := hQ S2 q ps fr12 hd12 ⟨h12.1, h12.2.1, by omega, h12.2.2.2⟩ hne
  refine ⟨[a, b, c, d], rfl, by simp, ?_⟩
  cases decide ((distN [a, b, c, d] : Int) < 4) with
  | true => exact same
  | false =>
    refine ⟨_, e1, _, at0, in_pairs h12.1 fun k1 => ?_⟩
    cases k1 with
    | true => exact same
    | false =>
      refine ⟨_, e1, _, at1, in_pairs h12.1 fun k2 => ?_⟩
      cases k2 with
      | true => exact same
      | false =>
        refine ⟨_, h12.1, ?_⟩
        refine lcRun_if ps pD pD (fun z => ng true (decide ([z.1, z.2] ∈ [[x.1, x.2], [y.1, y.2]]))) h12.1 (fun z hz N hN => ?_) fun p3 hp3 => ?_
        · refine ⟨by omega, in_rowsT (rs := [[x.1, x.2], [y.1, y.2]]) (r := [z.1, z.2]) ?_⟩
          revert hN
          cases ng true (decide ([z.1, z.2] ∈ [[x.1, x.2], [y.1, y.2]])) with
          | true => exact fun h => h
          | false => exact fun h => h
        · generalize hf : ps.filter (fun z => ng true (decide ([z.1, z.2] ∈ [[x.1, x.2], [y.1, y.2]]))) = fs
          have hfl : fs.length ≤ ps.length := by rw [← hf]; exact List.length_filter_le _ _
          have hl := hp.2.2.1
          refine ⟨_, sup_old e1 hp3, by simp; omega, fun p4 hp4 => ?_⟩
          have el : fs.map pD ++ [pD (lowP a c), pD (lowP b d)] = (fs ++ [lowP a c, lowP b d]).map pD := by rw [List.map_append]; rfl
          have hd4 := (hd12.new (c := .lst (fs.map pD)) hp3).new (c := .lst (List.map pD (fs ++ [lowP a c, lowP b d]))) hp4
          rw [el]
          refine hQ _ p4 _ ((fr12.trans (Fr.new hp3)).trans (Fr.new hp4)) hd4 ⟨sup_same, ?_, by rw [List.length_append]; simp; omega, ?_⟩ (by simp)
          · exact (hd12.new hp3).ne hp4
          · intro w hw'
            rcases List.mem_append.mp hw' with hw' | hw'
            · rw [← hf] at hw'
              exact hp.2.2.2 w (List.mem_filter.mp hw').1
            · simp only [List.mem_cons, List.not_mem_nil, or_false] at hw'
              rcases hw' with rfl | rfl
              · exact low_in hx hz
              · exact low_in hy hw
theorem w_switched (ds : List D) (S : Sto) (Q : QE) (hs : spSwitched ds S Q) : ds.length = 2 ∧ wpSs ⟨[("_law_take", spTake), ("_law_low_first", spLow)], []⟩ b_l_switched ⟨fun _ S' => Q .non S', Q⟩ (startD 11 ds) S := by
  obtain ⟨h, q, many, ps, rfl, hd, hp, hne, hQ⟩ := hs
  refine ⟨rfl, ?_⟩
  have hsz : szL = 16777216 := rfl
  have hl0 : 0 < ps.length := List.length_pos_iff.mpr hne
  have hl := hp.2.2.1
  simp only [b_l_switched, k_l_switched_7, s_l_switched_7, k_l_switched_6, s_l_switched_6, k_l_switched_5, s_l_switched_5, k_l_switched_4, s_l_switched_4, hp.1, wpSs, G.wpS, wpE, wpT, wpTs, wpI, wpEs, wpBin, wpCmp, wpLt, wpIx, wpBI, wpMI, tyMI, wpAug, parSet, asg_nm, asg_tp, asg_nil, asg_cons, wipeD, startD, SeqD, ListD, List.map_cons, List.map_nil, List.length_cons, List.length_nil, List.cons_append, List.nil_append, List.getElem?_cons_zero, List.getElem?_cons_succ, List.replicate, List.set_cons_zero, List.set_cons_succ, Option.some.injEq, Cell.lst.injEq, D.int.injEq, D.ref.injEq, D.tup.injEq, D.bl.injEq, exists_eq_left, exists_eq_left', exists_and_left, exists_and_right, exists_eq_right, exists_eq, and_true, true_and, sup_same, eq_ii, ng_f, ng_t, at0, at1, at2, at3, ix0, ix1, ix2, ix3, Nat.reduceAdd, Nat.reduceSub, wpRev]
  refine ⟨h, _, rfl, hd, by rw [List.length_map]; omega, by rw [List.length_map]; omega, fun S1 r fr1 hd1 r0 r1 => ?_⟩
  have hp1 := hp.fr fr1
  rw [List.length_map] at r1
  obtain ⟨x, hx, ex⟩ := at_pairs r0 r1
  refine ⟨_, hp1.1, r, rfl, _, ex, _, hp1.1, h, _, rfl, hd1, by rw [List.length_map]; omega, by rw [List.length_map]; omega, fun S2 t fr2 hd2 t0 t1 => ?_⟩
  have hp2 := hp1.fr fr2
  rw [List.length_map] at t1
  obtain ⟨y, hy, ey⟩ := at_pairs t0 t1
  refine ⟨_, hp2.1, t, rfl, _, ey, by omega, h, _, rfl, hd2, by omega, by omega, fun S3 u fr3 hd3 u0 u1 => ?_⟩
  have hp3 := hp2.fr fr3
  have frA := (fr1.trans fr2).trans fr3
  obtain ⟨x1, x2, x3, x4⟩ := hp.2.2.2 x hx
  obtain ⟨y1, y2, y3, y4⟩ := hp.2.2.2 y hy
  have fin : ∀ (c d : Int), 0 ≤ c ∧ c < many → 0 ≤ d ∧ d < many → wpSs ⟨[("_law_take", spTake), ("_law_low_first", spLow)], []⟩ k_l_switched_3 ⟨fun _ S' => Q .non S', Q⟩ [some (.ref h), some (.ref q), some (pD x), some (pD y), some (.int u), some (.int x.1), some (.int x.2), some (.int c), some (.int d), none, none] S3 := fun c d hc hd' =>
    sw_end h q many ps S3 Q hd3 hp3 hne _ _ x y x.1 x.2 c d ⟨x1, x2⟩ ⟨x3, x4⟩ hc hd' fun S' q' ps' fr' hd' hp' hn' => hQ S' q' ps' (frA.trans fr') hd' hp' hn'
  by_cases hu : u = 0
  · subst hu
    simp only [pD, wpSs, G.wpS, wpE, wpT, wpTs, wpI, wpEs, wpBin, wpCmp, wpLt, wpIx, wpBI, wpMI, tyMI, wpAug, parSet, asg_nm, asg_tp, asg_nil, asg_cons, wipeD, startD, SeqD, ListD, List.map_cons, List.map_nil, List.length_cons, List.length_nil, List.cons_append, List.nil_append, List.getElem?_cons_zero, List.getElem?_cons_succ, List.replicate, List.set_cons_zero, List.set_cons_succ, Option.some.injEq, Cell.lst.injEq, D.int.injEq, D.ref.injEq, D.tup.injEq, D.bl.injEq, exists_eq_left, exists_eq_left', exists_and_left, exists_and_right, exists_eq_right, exists_eq, and_true, true_and, sup_same, eq_ii, ng_f, ng_t, at0, at1, at2, at3, ix0, ix1, ix2, ix3, Nat.reduceAdd, Nat.reduceSub, decide_true]
    exact fin y.1 y.2 ⟨y1, y2⟩ ⟨y3, y4⟩
  · simp only [pD, wpSs, G.wpS, wpE, wpT, wpTs, wpI, wpEs, wpBin, wpCmp, wpLt, wpIx, wpBI, wpMI, tyMI, wpAug, parSet, asg_nm, asg_tp, asg_nil, asg_cons, wipeD, startD, SeqD, ListD, List.map_cons, List.map_nil, List.length_cons, List.length_nil, List.cons_append, List.nil_append, List.getElem?_cons_zero, List.getElem?_cons_succ, List.replicate, List.set_cons_zero, List.set_cons_succ, Option.some.injEq, Cell.lst.injEq, D.int.injEq, D.ref.injEq, D.tup.injEq, D.bl.injEq, exists_eq_left, exists_eq_left', exists_and_left, exists_and_right, exists_eq_right, exists_eq, and_true, true_and, sup_same, eq_ii, ng_f, ng_t, at0, at1, at2, at3, ix0, ix1, ix2, ix3, Nat.reduceAdd, Nat.reduceSub, hu, decide_false, List.drop_zero, List.reverse_cons, List.reverse_nil]
    exact fin y.2 y.1 ⟨y3, y4⟩ ⟨y1, y2⟩
end K48


namespace K48
open PySem PySem.Spec PyProof.Rows L2 G

theorem exists_map {α : Type} (f : α → D) (P : α → Prop) : ∀ (ys : List D), (∀ y ∈ ys, ∃ x, P x ∧ y = f x) → ∃ xs : List α, ys = xs.map f ∧ ∀ x ∈ xs, P x
  | [], _ => ⟨[], rfl, nofun⟩
  | y :: ys, h => by
    obtain ⟨x, hx, e⟩ := h y List.mem_cons_self
    obtain ⟨xs, e2, h2⟩ := exists_map f P ys fun z hz => h z (List.mem_cons_of_mem _ hz)
    exact ⟨x :: xs, by rw [e, e2]; rfl, fun z hz => by
      rcases List.mem_cons.mp hz with rfl | hz
      · exact hx
      · exact h2 z hz⟩
def unP : D → Int × Int
  | .tup [.int a, .int b] => (a, b)
  | _ => (0, 0)
def unT : D → Int × Int × Int
  | .tup [.int a, .int b, .int c] => (a, b, c)
  | _ => (0, 0, 0)
theorem sort_pD (ps : List (Int × Int)) : SortD (ps.map pD) ∧ ∃ ys : List (Int × Int), (ps.map pD).mergeSort leD = ys.map pD ∧ ys.Perm ps := by
  refine ⟨?_, sorted_map pD unP (fun _ => rfl) (fun _ => rfl) ps⟩
  rw [rows_pD]
  refine sort_rows fun r hr => ?_
  obtain ⟨x, _, rfl⟩ := List.mem_map.mp hr
  simp
theorem sort_tD (ps : List (Int × Int × Int)) : SortD (ps.map tD) ∧ ∃ ys : List (Int × Int × Int), (ps.map tD).mergeSort leD = ys.map tD ∧ ys.Perm ps := by
  refine ⟨?_, sorted_map tD unT (fun _ => rfl) (fun _ => rfl) ps⟩
  have e : ps.map tD = (ps.map fun x => [x.1, x.2.1, x.2.2]).map rowI := by rw [List.map_map]; rfl
  rw [e]
  refine sort_rows fun r hr => ?_
  obtain ⟨x, _, rfl⟩ := List.mem_map.mp hr
  simp
/-- _law_web -/
def spWeb : DSp := fun ds S Q => ∃ h, ds = [.ref h] ∧ Hand S h ∧ ∀ (S' : Sto) (many : Int) (ts : List (Int × Int × Int)), Fr [h] S S' → Hand S' h → 1 ≤ many → many ≤ 20 → ts.length ≤ 300 → (∀ t ∈ ts, InR many t) → Q (webD many ts) S'
theorem at5 (a b c d e : Int) {m : Int} (m0 : 0 ≤ m) (m1 : m < 5) : ∃ v, atI [D.int a, .int b, .int c, .int d, .int e] m = some (.int v) := by
  rw [atP m0]
  have : m.toNat = 0 ∨ m.toNat = 1 ∨ m.toNat = 2 ∨ m.toNat = 3 ∨ m.toNat = 4 := by omega
  rcases this with h | h | h | h | h <;> rw [h] <;> exact ⟨_, rfl⟩
def TW : Tab := ⟨[("_law_take", spTake), ("_law_ring_pairs", spPairs), ("_law_side_pairs", spPairs), ("_law_heap_pairs", spPairs), ("_law_crossed_pairs", spPairs), ("_law_low_first", spLow), ("_law_switched", spSwitched), ("_law_order", spOrder)], []⟩
/-- from the ties' loop on -/
theorem web_ties (h q o : Addr) (many menu : Int) (ps : List (Int × Int)) (os : List Int) (d1 d2 : D) (x6 : Option D) (S : Sto) (Q : QE) (hd : Hand S h) (hp : PairsAt S h q many 280 ps) (ho : S o = some (.lst (os.map D.int))) (hoh : h ≠ o) (hol : (os.length : Int) = many) (hoi : AllIn many os) (h1 : 1 ≤ many) (h2 : many ≤ 20) (m0 : 0 ≤ menu) (m1 : menu < 5)
    (hQ : ∀ (S' : Sto) (ts : List (Int × Int × Int)), Fr [h] S S' → Hand S' h → ts.length ≤ 300 → (∀ t ∈ ts, InR many t) → Q (webD many ts) S') :
    wpSs TW k_l_web_10 ⟨fun _ S' => Q .non S', Q⟩ [some (.ref h), some d1, some d2, some (.int menu), some (.int many), some (.ref q), x6, some (.ref o), none, none, none] S := by
  have hsz : szL = 16777216 := rfl
  have at_os : ∀ z : Int, 0 ≤ z → z < many → ∃ v, atI (os.map D.int) z = some (.int v) ∧ 0 ≤ v ∧ v < many := fun z z0 z1 => by
    have : z.toNat < os.length := by omega
    refine ⟨os[z.toNat], ?_, hoi _ (List.getElem_mem _)⟩
    rw [atP z0, List.getElem?_map, List.getElem?_eq_getElem this]; rfl
  simp only [k_l_web_10, s_l_web_10, k_l_web_9, s_l_web_9, k_l_web_8, s_l_web_8, TW, wpSs, G.wpS, wpE, wpT, wpTs, wpI, wpEs, wpBin, wpCmp, wpLt, wpIx, wpBI, wpMI, tyMI, wpAug, parSet, asg_nm, asg_tp, asg_nil, asg_cons, wipeD, startD, SeqD, ListD, List.map_cons, List.map_nil, List.length_cons, List.length_nil, List.cons_append, List.nil_append, List.getElem?_cons_zero, List.getElem?_cons_succ, List.replicate, List.set_cons_zero, List.set_cons_succ, Option.some.injEq, Cell.lst.injEq, D.int.injEq, D.ref.injEq, D.tup.injEq, D.bl.injEq, exists_eq_left, exists_eq_left', exists_and_left, exists_and_right, exists_eq_right, exists_eq, and_true, true_and, sup_same, eq_ii, ng_f, ng_t, at0, at1, at2, at3, ix0, ix1, ix2, ix3, Nat.reduceAdd, Nat.reduceSub]
  refine ⟨by omega, fun p1 hp1 => ?_⟩
  have hp' := hp.new (c := .lst []) hp1
  have ho' := sup_old (e := .lst []) ho hp1
  have hd' := hd.new (c := .lst []) hp1
  refine ⟨_, hp'.1, ?_⟩
  let g : Int → Int := fun z => match atI (os.map D.int) z with
    | some (.int v) => v
    | _ => 0
  refine lcRun_all ps pD (fun z => pD (lowP (g z.1) (g z.2))) hp'.1 (fun z hz N hN => ?_) fun p2 hp2 => ?_
  · obtain ⟨z1, z2, z3, z4⟩ := hp.2.2.2 z hz
    obtain ⟨v, ev, _⟩ := at_os z.1 z1 z2
    obtain ⟨w, ew, _⟩ := at_os z.2 z3 z4
    have gv : g z.1 = v := by show (match atI (os.map D.int) z.1 with | some (.int v) => v | _ => 0) = v; rw [ev]
    have gw : g z.2 = w := by show (match atI (os.map D.int) z.2 with | some (.int v) => v | _ => 0) = w; rw [ew]
    rw [gv, gw] at hN
    simp only [pD, wpSs, G.wpS, wpE, wpT, wpTs, wpI, wpEs, wpBin, wpCmp, wpLt, wpIx, wpBI, wpMI, tyMI, wpAug, parSet, asg_nm, asg_tp, asg_nil, asg_cons, wipeD, startD, SeqD, ListD, List.map_cons, List.map_nil, List.length_cons, List.length_nil, List.cons_append, List.nil_append, List.getElem?_cons_zero, List.getElem?_cons_succ, List.replicate, List.set_cons_zero, List.set_cons_succ, Option.some.injEq, Cell.lst.injEq, D.int.injEq, D.ref.injEq, D.tup.injEq, D.bl.injEq, exists_eq_left, exists_eq_left', exists_and_left, exists_and_right, exists_eq_right, exists_eq, and_true, true_and, sup_same, eq_ii, ng_f, ng_t, at0, at1, at2, at3, ix0, ix1, ix2, ix3, Nat.reduceAdd, Nat.reduceSub]
    exact ⟨_, ho', _, ev, _, ho', _, ew, v, w, rfl, hN⟩
  · have eL : (List.map (fun z => pD (lowP (g z.1) (g z.2))) ps) = (ps.map fun z => lowP (g z.1) (g z.2)).map pD := by rw [List.map_map]; rfl
    have hL : ∀ x ∈ (ps.map fun z => lowP (g z.1) (g z.2)), PR many x := by
      intro x hx
      obtain ⟨z, hz, rfl⟩ := List.mem_map.mp hx
      obtain ⟨z1, z2, z3, z4⟩ := hp.2.2.2 z hz
      obtain ⟨v, ev, v0, v1⟩ := at_os z.1 z1 z2
      obtain ⟨w, ew, w0, w1⟩ := at_os z.2 z3 z4
      have gv : g z.1 = v := by show (match atI (os.map D.int) z.1 with | some (.int v) => v | _ => 0) = v; rw [ev]
      have gw : g z.2 = w := by show (match atI (os.map D.int) z.2 with | some (.int v) => v | _ => 0) = w; rw [ew]
      rw [gv, gw]
      exact low_in ⟨v0, v1⟩ ⟨w0, w1⟩
    have hLl : (ps.map fun z => lowP (g z.1) (g z.2)).length ≤ 280 := by rw [List.length_map]; exact hp.2.2.1
    rw [eL]
    generalize (ps.map fun z => lowP (g z.1) (g z.2)) = L at *
    obtain ⟨hs, ys, ey, pm⟩ := sort_pD L
    rw [ey]
    refine ⟨hs, fun p3 hp3 => ?_⟩
    have hd3 := (hd'.new (c := .lst (L.map pD)) hp2).new (c := .lst (ys.map pD)) hp3
    have fr3 : Fr [h] S (sup (sup (sup S p1 (.lst [])) p2 (.lst (L.map pD))) p3 (.lst (ys.map pD))) := ((Fr.new hp1).trans (Fr.new hp2)).trans (Fr.new hp3)
    have e1 : sup (sup (sup S p1 (.lst [])) p2 (.lst (L.map pD))) p3 (.lst (ys.map pD)) p1 = some (.lst (List.map tD [])) := sup_old (sup_old sup_same hp2) hp3
    have e3 : sup (sup (sup S p1 (.lst [])) p2 (.lst (L.map pD))) p3 (.lst (ys.map pD)) p3 = some (.lst (ys.map pD)) := sup_same
    have h13 : p1 ≠ p3 := (sto_ne (sup_old sup_same hp2) hp3)
    have hn1 : h ≠ p1 := hd.ne hp1
    have hn3 : h ≠ p3 := (hd'.new (c := .lst (L.map pD)) hp2).ne hp3
    generalize sup (sup (sup S p1 (.lst [])) p2 (.lst (L.map pD))) p3 (.lst (ys.map pD)) = S4 at *
    refine forRun_inv _ (fun i ρ S5 => ∃ x9 x10 ts, ρ = [some (D.ref h), some d1, some d2, some (.int menu), some (.int many), some (.ref q), x6, some (.ref o), some (.ref p1), x9, x10] ∧ Fr [h] S S5 ∧ Hand S5 h ∧ S5 p3 = some (.lst (ys.map pD)) ∧ S5 p1 = some (.lst (ts.map tD)) ∧ ts.length = i ∧ ∀ t ∈ ts, InR many t)
      ⟨_, _, [], rfl, fr3, hd3, e3, e1, rfl, nofun⟩ (fun i ρ S5 _ ⟨_, _, _, _, _, _, e, _⟩ => e) (fun i x ρ S5 N hx ⟨x9, x10, ts, hρ, fr5, hd5, h5, c5, l5, r5⟩ hN => ?_) (fun ρ S5 ⟨x9, x10, ts, hρ, fr5, hd5, h5, c5, l5, r5⟩ => ?_)
    · rw [List.getElem?_map] at hx
      cases hk : ys[i]? with
      | none => rw [hk] at hx; cases hx
      | some z =>
        rw [hk] at hx
        cases hx
        obtain ⟨z1, z2, z3, z4⟩ := hL z (pm.mem_iff.mp (List.mem_of_getElem? hk))
        subst hρ
        have hi : i < ys.length := (List.getElem?_eq_some_iff.mp hk).1
        simp only [pD, k_l_web_7, s_l_web_7, wpSs, G.wpS, wpE, wpT, wpTs, wpI, wpEs, wpBin, wpCmp, wpLt, wpIx, wpBI, wpMI, tyMI, wpAug, parSet, asg_nm, asg_tp, asg_nil, asg_cons, wipeD, startD, SeqD, ListD, List.map_cons, List.map_nil, List.length_cons, List.length_nil, List.cons_append, List.nil_append, List.getElem?_cons_zero, List.getElem?_cons_succ, List.replicate, List.set_cons_zero, List.set_cons_succ, Option.some.injEq, Cell.lst.injEq, D.int.injEq, D.ref.injEq, D.tup.injEq, D.bl.injEq, exists_eq_left, exists_eq_left', exists_and_left, exists_and_right, exists_eq_right, exists_eq, and_true, true_and, sup_same, eq_ii, ng_f, ng_t, at0, at1, at2, at3, ix0, ix1, ix2, ix3, Nat.reduceAdd, Nat.reduceSub, c5]
        have e9 : (10 : Int) ^ Int.toNat 9 = 1000000000 := by decide
        have z64 : (2 : Int) ^ 64 = 18446744073709551616 := by decide
        simp only [e9]
        refine ⟨⟨_, rfl⟩, h, _, rfl, hd5, by omega, by omega, fun S6 r fr6 hd6 r0 r1 => ⟨cpow_ok (by omega) (by omega) (by omega) (by omega), h, _, rfl, hd6, by omega, by omega, fun S7 t fr7 hd7 t0 t1 => ⟨cpow_ok (by omega) (by omega) (by omega) (by omega), by omega, fun p hp7 => ?_⟩⟩⟩
        obtain ⟨v, ev⟩ := at5 0 1 r t 1000000000 m0 m1
        have nh1 : p1 ∉ [h] := by simpa using Ne.symm hn1
        have nh3 : p3 ∉ [h] := by simpa using Ne.symm hn3
        have c7 := fr7.at (fr6.at c5 nh1) nh1
        have h7 := fr7.at (fr6.at h5 nh3) nh3
        have hyl := pm.length_eq
        refine ⟨_, ev, by omega, _, sup_old c7 hp7, by rw [List.length_map]; omega, hN _ _ ⟨_, _, ts ++ [(z.1, z.2, v)], rfl, (((fr5.trans fr6).trans fr7).trans (Fr.new hp7)).put_new hp1, (hd7.new hp7).put hn1, ?_, ?_, by simp [l5], ?_⟩⟩
        · rw [sup_ne (Ne.symm h13)]; exact sup_old h7 hp7
        · rw [sup_same, List.map_append]; rfl
        · intro t' ht'
          rcases List.mem_append.mp ht' with ht' | ht'
          · exact r5 t' ht'
          · rw [List.mem_singleton.mp ht']; exact ⟨z1, z2, z3, z4⟩
    · subst hρ
      simp only [wpSs, G.wpS, wpE, wpT, wpTs, wpI, wpEs, wpBin, wpCmp, wpLt, wpIx, wpBI, wpMI, tyMI, wpAug, parSet, asg_nm, asg_tp, asg_nil, asg_cons, wipeD, startD, SeqD, ListD, List.map_cons, List.map_nil, List.length_cons, List.length_nil, List.cons_append, List.nil_append, List.getElem?_cons_zero, List.getElem?_cons_succ, List.replicate, List.set_cons_zero, List.set_cons_succ, Option.some.injEq, Cell.lst.injEq, D.int.injEq, D.ref.injEq, D.tup.injEq, D.bl.injEq, exists_eq_left, exists_eq_left', exists_and_left, exists_and_right, exists_eq_right, exists_eq, and_true, true_and, sup_same, eq_ii, ng_f, ng_t, at0, at1, at2, at3, ix0, ix1, ix2, ix3, Nat.reduceAdd, Nat.reduceSub, c5]
      refine ⟨by omega, hQ _ ts fr5 hd5 ?_ r5⟩
      rw [l5, List.length_map, pm.length_eq]
      omega
end K48


namespace K48
open PySem PySem.Spec PyProof.Rows L2 G

theorem eq_nilP {S : Sto} {Q : QE} {neg : Bool} {a b : Addr} {ps : List (Int × Int)} (h : S a = some (.lst (ps.map pD))) (h' : S b = some (.lst [])) (q : Q (.bl (ng neg ps.isEmpty)) S) : wpEq neg (.ref a) (.ref b) S Q :=
  eq_nil (rs := ps.map fun x => [x.1, x.2]) (by rw [h, rows_pD]) h' (by rw [List.isEmpty_map]; exact q)
theorem eq_nilT {S : Sto} {Q : QE} {neg : Bool} {a b : Addr} {ps : List (Int × Int × Int)} (h : S a = some (.lst (ps.map tD))) (h' : S b = some (.lst [])) (q : Q (.bl (ng neg ps.isEmpty)) S) : wpEq neg (.ref a) (.ref b) S Q :=
  eq_nil (rs := ps.map fun x => [x.1, x.2.1, x.2.2]) (by rw [h, List.map_map]; rfl) h' (by rw [List.isEmpty_map]; exact q)
theorem web_mid (h q : Addr) (many menu turns : Int) (ps : List (Int × Int)) (d1 : D) (x7 x8 : Option D) (S : Sto) (Q : QE) (hd : Hand S h) (hp : PairsAt S h q many 250 ps) (h1 : 1 ≤ many) (h2 : many ≤ 20) (m0 : 0 ≤ menu) (m1 : menu < 5) (t0 : 0 ≤ turns) (t1 : turns < 7)
    (hQ : ∀ (S' : Sto) (ts : List (Int × Int × Int)), Fr [h] S S' → Hand S' h → ts.length ≤ 300 → (∀ t ∈ ts, InR many t) → Q (webD many ts) S') :
    wpSs TW k_l_web_13 ⟨fun _ S' => Q .non S', Q⟩ [some (.ref h), some d1, some (.int turns), some (.int menu), some (.int many), some (.ref q), none, none, none, none, none] S := by
  have hsz : szL = 16777216 := rfl
  have z64 : (2 : Int) ^ 64 = 18446744073709551616 := by decide
  simp only [k_l_web_13, s_l_web_13, k_l_web_12, s_l_web_12, k_l_web_11, s_l_web_11, wpSp, wpSs, G.wpS, wpE, wpT, wpTs, wpI, wpEs, wpBin, wpCmp, wpLt, wpIx, wpBI, wpMI, tyMI, wpAug, parSet, asg_nm, asg_tp, asg_nil, asg_cons, wipeD, startD, SeqD, ListD, List.map_cons, List.map_nil, List.length_cons, List.length_nil, List.cons_append, List.nil_append, List.getElem?_cons_zero, List.getElem?_cons_succ, List.replicate, List.set_cons_zero, List.set_cons_succ, Option.some.injEq, Cell.lst.injEq, D.int.injEq, D.ref.injEq, D.tup.injEq, D.bl.injEq, exists_eq_left, exists_eq_left', exists_and_left, exists_and_right, exists_eq_right, exists_eq, and_true, true_and, sup_same, eq_ii, ng_f, ng_t, at0, at1, at2, at3, ix0, ix1, ix2, ix3, Nat.reduceAdd, Nat.reduceSub]
  refine ⟨_, hp.1, ?_⟩
  refine lcRun_all ps pD (fun z => pD (lowP z.1 z.2)) hp.1 (fun z hz N hN => ?_) fun p1 hp1 => ?_
  · simp only [pD, wpSs, G.wpS, wpE, wpT, wpTs, wpI, wpEs, wpBin, wpCmp, wpLt, wpIx, wpBI, wpMI, tyMI, wpAug, parSet, asg_nm, asg_tp, asg_nil, asg_cons, wipeD, startD, SeqD, ListD, List.map_cons, List.map_nil, List.length_cons, List.length_nil, List.cons_append, List.nil_append, List.getElem?_cons_zero, List.getElem?_cons_succ, List.replicate, List.set_cons_zero, List.set_cons_succ, Option.some.injEq, Cell.lst.injEq, D.int.injEq, D.ref.injEq, D.tup.injEq, D.bl.injEq, exists_eq_left, exists_eq_left', exists_and_left, exists_and_right, exists_eq_right, exists_eq, and_true, true_and, sup_same, eq_ii, ng_f, ng_t, at0, at1, at2, at3, ix0, ix1, ix2, ix3, Nat.reduceAdd, Nat.reduceSub]
    exact ⟨_, _, rfl, hN⟩
  · have eL : (List.map (fun z => pD (lowP z.1 z.2)) ps) = (ps.map fun z => lowP z.1 z.2).map pD := by rw [List.map_map]; rfl
    have hL : ∀ x ∈ (ps.map fun z => lowP z.1 z.2), PR many x := by
      intro x hx
      obtain ⟨z, hz, rfl⟩ := List.mem_map.mp hx
      obtain ⟨z1, z2, z3, z4⟩ := hp.2.2.2 z hz
      exact low_in ⟨z1, z2⟩ ⟨z3, z4⟩
    have hLl : (ps.map fun z => lowP z.1 z.2).length ≤ 250 := by rw [List.length_map]; exact hp.2.2.1
    rw [eL]
    generalize (ps.map fun z => lowP z.1 z.2) = L at *
    refine ⟨fun x hx => ?_, by rw [List.length_map]; omega, fun p2 ys hp2 hys hyl => ?_⟩
    · obtain ⟨z, _, rfl⟩ := List.mem_map.mp hx
      exact ⟨_, _, rfl⟩
    · obtain ⟨rs, rfl, hrs⟩ := exists_map pD (PR many) ys fun y hy => by
        obtain ⟨z, hz, e⟩ := List.mem_map.mp (hys y hy)
        exact ⟨z, hL z hz, e.symm⟩
      rw [List.length_map, List.length_map] at hyl
      have hd2 := (hd.new (c := .lst (L.map pD)) hp1).new (c := .lst (rs.map pD)) hp2
      have fr2 : Fr [h] S (sup (sup S p1 (.lst (L.map pD))) p2 (.lst (rs.map pD))) := (Fr.new hp1).trans (Fr.new hp2)
      have pa : PairsAt (sup (sup S p1 (.lst (L.map pD))) p2 (.lst (rs.map pD))) h p2 many 250 rs := ⟨sup_same, (hd.new (c := .lst (L.map pD)) hp1).ne hp2, by omega, hrs⟩
      generalize sup (sup S p1 (.lst (L.map pD))) p2 (.lst (rs.map pD)) = S2 at *
      refine ⟨by omega, fun p3 hp3 => ?_⟩
      refine eq_nilP (sup_old pa.1 hp3) sup_same ?_
      have hd3 := hd2.new (c := .lst []) hp3
      have fr3 := fr2.trans (Fr.new (c := .lst []) hp3)
      have pa3 := pa.new (c := .lst []) hp3
      generalize sup S2 p3 (.lst []) = S3 at *
      dsimp only
      have hk : ∀ n : Int, n = turns * (if ng true rs.isEmpty = true then 1 else 0) → 0 ≤ n ∧ n ≤ 6 ∧ (0 < n → rs ≠ []) := by
        intro n hn
        cases rs with
        | nil => simp [ng] at hn; subst hn; exact ⟨by omega, by omega, by omega⟩
        | cons r rs => simp [ng] at hn; subst hn; exact ⟨by omega, by omega, fun _ => by simp⟩
      have hb : (0 : Int) ≤ (if ng true rs.isEmpty = true then 1 else 0) ∧ (if ng true rs.isEmpty = true then (1 : Int) else 0) ≤ 1 := by split <;> omega
      generalize hn : turns * (if ng true rs.isEmpty = true then 1 else 0) = n
      obtain ⟨n0, n1, n2⟩ := hk n hn.symm
      refine ⟨cmul_l (by omega) (by omega), by omega, by omega, ?_⟩
      refine forRun_inv _ (fun i ρ S5 => ∃ x6 q5 rs5, ρ = [some (D.ref h), some d1, some (D.int turns), some (D.int menu), some (D.int many), some (D.ref q5), x6, none, none, none, none] ∧ Fr [h] S S5 ∧ Hand S5 h ∧ PairsAt S5 h q5 many (250 + 2 * i) rs5 ∧ (rs ≠ [] → rs5 ≠ []))
        ⟨_, p2, rs, rfl, fr3, hd3, pa3, fun h => h⟩ (fun _ _ _ _ _ => trivial) (fun i x ρ S5 N hx ⟨x6, q5, rs5, hρ, fr5, hd5, pa5, ne5⟩ hN => ?_) (fun ρ S5 ⟨x6, q5, rs5, hρ, fr5, hd5, pa5, ne5⟩ => ?_)
      · obtain ⟨rfl, hi⟩ := mem_range hx
        subst hρ
        simp only [k_l_web_6, s_l_web_6, TW, wpSs, G.wpS, wpE, wpT, wpTs, wpI, wpEs, wpBin, wpCmp, wpLt, wpIx, wpBI, wpMI, tyMI, wpAug, parSet, asg_nm, asg_tp, asg_nil, asg_cons, wipeD, startD, SeqD, ListD, List.map_cons, List.map_nil, List.length_cons, List.length_nil, List.cons_append, List.nil_append, List.getElem?_cons_zero, List.getElem?_cons_succ, List.replicate, List.set_cons_zero, List.set_cons_succ, Option.some.injEq, Cell.lst.injEq, D.int.injEq, D.ref.injEq, D.tup.injEq, D.bl.injEq, exists_eq_left, exists_eq_left', exists_and_left, exists_and_right, exists_eq_right, exists_eq, and_true, true_and, sup_same, eq_ii, ng_f, ng_t, at0, at1, at2, at3, ix0, ix1, ix2, ix3, Nat.reduceAdd, Nat.reduceSub]
        refine ⟨h, q5, many, rs5, rfl, hd5, ⟨pa5.1, pa5.2.1, by have := pa5.2.2.1; omega, pa5.2.2.2⟩, ne5 (n2 (by omega)), fun S6 q6 rs6 fr6 hd6 pa6 ne6 => ?_⟩
        exact hN _ _ ⟨_, q6, rs6, rfl, fr5.trans fr6, hd6, ⟨pa6.1, pa6.2.1, by have := pa5.2.2.1; have := pa6.2.2.1; omega, pa6.2.2.2⟩, fun _ => ne6⟩
      · subst hρ
        have hl6 : (List.map (fun (i : Nat) => D.int (i : Int)) (List.range n.toNat)).length ≤ 6 := by simp; omega
        simp only [TW, wpSs, G.wpS, wpE, wpT, wpTs, wpI, wpEs, wpBin, wpCmp, wpLt, wpIx, wpBI, wpMI, tyMI, wpAug, parSet, asg_nm, asg_tp, asg_nil, asg_cons, wipeD, startD, SeqD, ListD, List.map_cons, List.map_nil, List.length_cons, List.length_nil, List.cons_append, List.nil_append, List.getElem?_cons_zero, List.getElem?_cons_succ, List.replicate, List.set_cons_zero, List.set_cons_succ, Option.some.injEq, Cell.lst.injEq, D.int.injEq, D.ref.injEq, D.tup.injEq, D.bl.injEq, exists_eq_left, exists_eq_left', exists_and_left, exists_and_right, exists_eq_right, exists_eq, and_true, true_and, sup_same, eq_ii, ng_f, ng_t, at0, at1, at2, at3, ix0, ix1, ix2, ix3, Nat.reduceAdd, Nat.reduceSub]
        refine ⟨h, many, rfl, hd5, by omega, by omega, fun S6 o os fr6 hd6 ho hos hol hoi => ?_⟩
        have frA := fr5.trans fr6
        exact web_ties h q5 o many menu rs5 os d1 _ x6 S6 Q hd6 ⟨(pa5.fr fr6).1, pa5.2.1, by have := pa5.2.2.1; omega, pa5.2.2.2⟩ hos (hd5.ne ho) hol hoi h1 h2 m0 m1 fun S' ts fr' hd' hl hr => hQ S' ts (frA.trans fr') hd' hl hr
theorem w_web (ds : List D) (S : Sto) (Q : QE) (hs : spWeb ds S Q) : ds.length = 1 ∧ wpSs TW b_l_web ⟨fun _ S' => Q .non S', Q⟩ (startD 11 ds) S := by
  obtain ⟨h, rfl, hd, hQ⟩ := hs
  refine ⟨rfl, ?_⟩
  simp only [b_l_web, k_l_web_15, s_l_web_15, k_l_web_14, s_l_web_14, k_l_web_0, s_l_web_0, k_l_web_5, s_l_web_5, k_l_web_1, s_l_web_1, k_l_web_4, s_l_web_4, k_l_web_2, s_l_web_2, k_l_web_3, s_l_web_3, TW, wpSs, G.wpS, wpE, wpT, wpTs, wpI, wpEs, wpBin, wpCmp, wpLt, wpIx, wpBI, wpMI, tyMI, wpAug, parSet, asg_nm, asg_tp, asg_nil, asg_cons, wipeD, startD, SeqD, ListD, List.map_cons, List.map_nil, List.length_cons, List.length_nil, List.cons_append, List.nil_append, List.getElem?_cons_zero, List.getElem?_cons_succ, List.replicate, List.set_cons_zero, List.set_cons_succ, Option.some.injEq, Cell.lst.injEq, D.int.injEq, D.ref.injEq, D.tup.injEq, D.bl.injEq, exists_eq_left, exists_eq_left', exists_and_left, exists_and_right, exists_eq_right, exists_eq, and_true, true_and, sup_same, eq_ii, ng_f, ng_t, at0, at1, at2, at3, ix0, ix1, ix2, ix3, Nat.reduceAdd, Nat.reduceSub]
  refine ⟨h, _, rfl, hd, by omega, by omega, fun S1 way fr1 hd1 a0 a1 => ?_⟩
  refine ⟨h, _, rfl, hd1, by omega, by omega, fun S2 turns fr2 hd2 b0 b1 => ?_⟩
  refine ⟨h, _, rfl, hd2, by omega, by omega, fun S3 menu fr3 hd3 c0 c1 => ?_⟩
  have frA := (fr1.trans fr2).trans fr3
  have fin : spPairs [.ref h] S3 fun d S4 => asgT (.tp (.cons (.nm 4) (.cons (.nm 5) .nil))) d [some (.ref h), some (.int way), some (.int turns), some (.int menu), none, none, none, none, none, none, none] S4 fun ρ' => wpSs TW k_l_web_13 ⟨fun _ S' => Q .non S', Q⟩ ρ' S4 := by
    refine ⟨h, rfl, hd3, fun S4 p many ps fr4 hd4 hp hps m1 m2 hl hpr => ?_⟩
    simp only [wpSs, G.wpS, wpE, wpT, wpTs, wpI, wpEs, wpBin, wpCmp, wpLt, wpIx, wpBI, wpMI, tyMI, wpAug, parSet, asg_nm, asg_tp, asg_nil, asg_cons, wipeD, startD, SeqD, ListD, List.map_cons, List.map_nil, List.length_cons, List.length_nil, List.cons_append, List.nil_append, List.getElem?_cons_zero, List.getElem?_cons_succ, List.replicate, List.set_cons_zero, List.set_cons_succ, Option.some.injEq, Cell.lst.injEq, D.int.injEq, D.ref.injEq, D.tup.injEq, D.bl.injEq, exists_eq_left, exists_eq_left', exists_and_left, exists_and_right, exists_eq_right, exists_eq, and_true, true_and, sup_same, eq_ii, ng_f, ng_t, at0, at1, at2, at3, ix0, ix1, ix2, ix3, Nat.reduceAdd, Nat.reduceSub]
    exact web_mid h p many menu turns ps _ none none S4 Q hd4 ⟨hps, hd3.ne hp, hl, hpr⟩ m1 m2 c0 c1 b0 b1 fun S' ts fr' hd' hl' hr' => hQ S' many ts ((frA.trans fr4).trans fr') hd' m1 m2 hl' hr'
  dsimp only
  cases decide (way < 2) with
  | true => exact fin
  | false =>
    cases decide (way < 4) with
    | true => exact fin
    | false =>
      cases decide (way < 6) with
      | true => exact fin
      | false => exact fin
end K48


namespace K48
open PySem PySem.Spec PyProof.Rows L2 G

/-- _law_untied -/
def spUntied : DSp := fun ds S Q => ∃ (many : Int) (ts : List (Int × Int × Int)), ds = [webD many ts] ∧ 1 ≤ many ∧ many ≤ 20 ∧ ts.length ≤ 300 ∧
  ∀ (S' : Sto) (p : Addr) (ps : List (Int × Int)), Fr [] S S' → S p = none → S' p = some (.lst (ps.map pD)) → ps.length ≤ 400 → (∀ x ∈ ps, PR many x) → Q (.ref p) S'
theorem w_untied (ds : List D) (S : Sto) (Q : QE) (hs : spUntied ds S Q) : ds.length = 1 ∧ wpSs ⟨[], []⟩ b_l_untied ⟨fun _ S' => Q .non S', Q⟩ (startD 6 ds) S := by
  obtain ⟨many, ts, rfl, h1, h2, hl, hQ⟩ := hs
  refine ⟨rfl, ?_⟩
  have hsz : szL = 16777216 := rfl
  simp only [b_l_untied, k_l_untied_4, s_l_untied_4, k_l_untied_3, s_l_untied_3, k_l_untied_2, s_l_untied_2, k_l_untied_1, s_l_untied_1, wpSs, G.wpS, wpE, wpT, wpTs, wpI, wpEs, wpBin, wpCmp, wpLt, wpIx, wpBI, wpMI, tyMI, wpAug, parSet, asg_nm, asg_tp, asg_nil, asg_cons, wipeD, startD, SeqD, ListD, List.map_cons, List.map_nil, List.length_cons, List.length_nil, List.cons_append, List.nil_append, List.getElem?_cons_zero, List.getElem?_cons_succ, List.replicate, List.set_cons_zero, List.set_cons_succ, Option.some.injEq, Cell.lst.injEq, D.int.injEq, D.ref.injEq, D.tup.injEq, D.bl.injEq, exists_eq_left, exists_eq_left', exists_and_left, exists_and_right, exists_eq_right, exists_eq, and_true, true_and, sup_same, eq_ii, ng_f, ng_t, at0, at1, at2, at3, ix0, ix1, ix2, ix3, Nat.reduceAdd, Nat.reduceSub, webD]
  refine lcRun_all ts tD (fun t => pD (t.1, t.2.1)) trivial (fun t ht N hN => ?_) fun p1 hp1 => ⟨by omega, fun p2 hp2 => ⟨by omega, by omega, ?_⟩⟩
  · simp only [tD, wpSs, G.wpS, wpE, wpT, wpTs, wpI, wpEs, wpBin, wpCmp, wpLt, wpIx, wpBI, wpMI, tyMI, wpAug, parSet, asg_nm, asg_tp, asg_nil, asg_cons, wipeD, startD, SeqD, ListD, List.map_cons, List.map_nil, List.length_cons, List.length_nil, List.cons_append, List.nil_append, List.getElem?_cons_zero, List.getElem?_cons_succ, List.replicate, List.set_cons_zero, List.set_cons_succ, Option.some.injEq, Cell.lst.injEq, D.int.injEq, D.ref.injEq, D.tup.injEq, D.bl.injEq, exists_eq_left, exists_eq_left', exists_and_left, exists_and_right, exists_eq_right, exists_eq, and_true, true_and, sup_same, eq_ii, ng_f, ng_t, at0, at1, at2, at3, ix0, ix1, ix2, ix3, Nat.reduceAdd, Nat.reduceSub]
    exact ⟨by omega, hN⟩
  have eL : (List.map (fun t : Int × Int × Int => pD (t.1, t.2.1)) ts) = (ts.map fun t => (t.1, t.2.1)).map pD := by rw [List.map_map]; rfl
  rw [eL] at hp2 ⊢
  generalize (ts.map fun t => (t.1, t.2.1)) = L at *
  refine forRun_inv _ (fun i ρ S3 => ∃ q ps x3, ρ = [some (.tup [.int many, .tup (ts.map tD)]), some (.ref p1), some (.ref q), x3, none, none] ∧ Fr [] S S3 ∧ S q = none ∧ S3 p1 = some (.lst (L.map pD)) ∧ S3 q = some (.lst (ps.map pD)) ∧ ps.length ≤ i * 20 ∧ ∀ x ∈ ps, PR many x)
    ⟨p2, [], _, rfl, (Fr.new hp1).trans (Fr.new hp2), (sup_none hp2).1, sup_old sup_same hp2, sup_same, by simp, nofun⟩ (fun _ _ _ _ _ => trivial) (fun i x ρ S3 N hx ⟨q, ps, x3, hρ, fr, hq, e1, e2, hln, hpr⟩ hN => ?_) (fun ρ S3 ⟨q, ps, x3, hρ, fr, hq, e1, e2, hln, hpr⟩ => ?_)
  · obtain ⟨rfl, hi⟩ := mem_range hx
    subst hρ
    simp only [k_l_untied_0, s_l_untied_0, wpSs, G.wpS, wpE, wpT, wpTs, wpI, wpEs, wpBin, wpCmp, wpLt, wpIx, wpBI, wpMI, tyMI, wpAug, parSet, asg_nm, asg_tp, asg_nil, asg_cons, wipeD, startD, SeqD, ListD, List.map_cons, List.map_nil, List.length_cons, List.length_nil, List.cons_append, List.nil_append, List.getElem?_cons_zero, List.getElem?_cons_succ, List.replicate, List.set_cons_zero, List.set_cons_succ, Option.some.injEq, Cell.lst.injEq, D.int.injEq, D.ref.injEq, D.tup.injEq, D.bl.injEq, exists_eq_left, exists_eq_left', exists_and_left, exists_and_right, exists_eq_right, exists_eq, and_true, true_and, sup_same, eq_ii, ng_f, ng_t, at0, at1, at2, at3, ix0, ix1, ix2, ix3, Nat.reduceAdd, Nat.reduceSub]
    refine ⟨by omega, by omega, ?_⟩
    generalize hc : (many - ((i : Int) + 1)).toNat = c
    refine lcRun_if (List.range c) (fun (j : Nat) => D.int ((i : Int) + 1 + (j : Int))) (fun (j : Nat) => pD ((i : Int), (i : Int) + 1 + (j : Int))) (fun j => ng true (decide ([(i : Int), (i : Int) + 1 + (j : Int)] ∈ L.map fun x => [x.1, x.2]))) trivial (fun j hj N' hN' => ?_) fun p3 hp3 => ?_
    · refine ⟨by omega, in_rows (rs := L.map fun x => [x.1, x.2]) (r := [(i : Int), (i : Int) + 1 + (j : Int)]) (by rw [e1, rows_pD]) ?_⟩
      revert hN'
      cases ng true (decide ([(i : Int), (i : Int) + 1 + (j : Int)] ∈ L.map fun x => [x.1, x.2])) with
      | true => exact fun h => ⟨by omega, h⟩
      | false => exact fun h => h
    · generalize hf : (List.range c).filter (fun (j : Nat) => ng true (decide ([(i : Int), (i : Int) + 1 + (j : Int)] ∈ L.map fun x => [x.1, x.2]))) = fs
      have hfl : fs.length ≤ c := by
        rw [← hf]
        exact Nat.le_trans (List.length_filter_le _ _) (by simp)
      have hfm : ∀ j ∈ fs, j < c := fun j hj => by
        rw [← hf] at hj
        exact List.mem_range.mp (List.mem_filter.mp hj).1
      have e : fs.map (fun (j : Nat) => pD ((i : Int), (i : Int) + 1 + (j : Int))) = (fs.map fun (j : Nat) => ((i : Int), (i : Int) + 1 + (j : Int))).map pD := by rw [List.map_map]; rfl
      rw [e]
      refine ⟨_, sup_old e2 hp3, by simp; omega, fun p4 hp4 => ?_⟩
      rw [← List.map_append]
      refine hN _ _ ⟨p4, _, _, rfl, (fr.trans (Fr.new hp3)).trans (Fr.new hp4), ((fr.trans (Fr.new hp3)).non (by simp) hp4), sup_old (sup_old e1 hp3) hp4, sup_same, by rw [List.length_append, List.length_map]; omega, ?_⟩
      intro x hx
      rcases List.mem_append.mp hx with hx | hx
      · exact hpr x hx
      · obtain ⟨j, hj, rfl⟩ := List.mem_map.mp hx
        have := hfm j hj
        exact ⟨by simp, by show (i : Int) < many; omega, by show 0 ≤ (i : Int) + 1 + (j : Int); omega, by show (i : Int) + 1 + (j : Int) < many; omega⟩
  · subst hρ
    simp only [List.length_map, List.length_range] at hln
    simp only [wpSs, G.wpS, wpE, wpT, wpTs, wpI, wpEs, wpBin, wpCmp, wpLt, wpIx, wpBI, wpMI, tyMI, wpAug, parSet, asg_nm, asg_tp, asg_nil, asg_cons, wipeD, startD, SeqD, ListD, List.map_cons, List.map_nil, List.length_cons, List.length_nil, List.cons_append, List.nil_append, List.getElem?_cons_zero, List.getElem?_cons_succ, List.replicate, List.set_cons_zero, List.set_cons_succ, Option.some.injEq, Cell.lst.injEq, D.int.injEq, D.ref.injEq, D.tup.injEq, D.bl.injEq, exists_eq_left, exists_eq_left', exists_and_left, exists_and_right, exists_eq_right, exists_eq, and_true, true_and, sup_same, eq_ii, ng_f, ng_t, at0, at1, at2, at3, ix0, ix1, ix2, ix3, Nat.reduceAdd, Nat.reduceSub]
    exact hQ _ q ps fr hq e2 (by omega) hpr
/-- _law_otherwise -/
def spOther : DSp := fun ds S Q => ∃ (h : Addr) (many way : Int) (ts : List (Int × Int × Int)), ds = [.ref h, webD many ts, .int way] ∧ Hand S h ∧ 1 ≤ many ∧ many ≤ 20 ∧ ts.length ≤ 300 ∧ (∀ t ∈ ts, InR many t) ∧
  ∀ (S' : Sto) (many' : Int) (ts' : List (Int × Int × Int)), Fr [h] S S' → Hand S' h → 1 ≤ many' → many' ≤ 21 → ts'.length ≤ 301 → (∀ t ∈ ts', InR many' t) → Q (webD many' ts') S'
def TO : Tab := ⟨[("_law_untied", spUntied), ("_law_take", spTake)], []⟩
theorem w_other (ds : List D) (S : Sto) (Q : QE) (hs : spOther ds S Q) : ds.length = 3 ∧ wpSs TO b_l_otherwise ⟨fun _ S' => Q .non S', Q⟩ (startD 8 ds) S := by
  obtain ⟨h, many, way, ts, rfl, hd, h1, h2, hl, hr, hQ⟩ := hs
  refine ⟨rfl, ?_⟩
  have hsz : szL = 16777216 := rfl
  have fin : ∀ (S2 : Sto) (p1 : Addr) (d5 : D) (x6 x7 : Option D) (us : List (Int × Int × Int)), Fr [h] S S2 → Hand S2 h → S2 p1 = some (.lst (us.map tD)) → us.length ≤ 301 → (∀ t ∈ us, InR many t) → wpSs TO k_l_otherwise_3 ⟨fun _ S' => Q .non S', Q⟩ [some (.ref h), some (webD many ts), some (.int way), some (.int many), some (.ref p1), some d5, x6, x7] S2 := by
    intro S2 p1 d5 x6 x7 us fr hd2 e1 hul hur
    simp only [k_l_otherwise_3, s_l_otherwise_3, TO, wpSs, G.wpS, wpE, wpT, wpTs, wpI, wpEs, wpBin, wpCmp, wpLt, wpIx, wpBI, wpMI, tyMI, wpAug, parSet, asg_nm, asg_tp, asg_nil, asg_cons, wipeD, startD, SeqD, ListD, List.map_cons, List.map_nil, List.length_cons, List.length_nil, List.cons_append, List.nil_append, List.getElem?_cons_zero, List.getElem?_cons_succ, List.replicate, List.set_cons_zero, List.set_cons_succ, Option.some.injEq, Cell.lst.injEq, D.int.injEq, D.ref.injEq, D.tup.injEq, D.bl.injEq, exists_eq_left, exists_eq_left', exists_and_left, exists_and_right, exists_eq_right, exists_eq, and_true, true_and, sup_same, eq_ii, ng_f, ng_t, at0, at1, at2, at3, ix0, ix1, ix2, ix3, Nat.reduceAdd, Nat.reduceSub, e1]
    obtain ⟨hs, ys, ey, pm⟩ := sort_tD us
    rw [ey]
    have hyl := pm.length_eq
    have hyr : ∀ (m' : Int), many ≤ m' → ∀ t ∈ ys, InR m' t := fun m' hm t ht => by
      obtain ⟨a, b, c, d⟩ := hur t (pm.mem_iff.mp ht)
      exact ⟨a, by omega, c, by omega⟩
    cases decide (way = 4) with
    | true =>
      refine ⟨hs, fun p hp => ⟨by omega, ?_⟩⟩
      by_cases hm : many < 20
      · rw [if_pos (decide_eq_true hm)]
        exact hQ _ (many + 1) ys (fr.trans (Fr.new hp)) (hd2.new hp) (by omega) (by omega) (by omega) (hyr _ (by omega))
      · rw [if_neg (by rw [decide_eq_false hm]; decide)]
        exact hQ _ (many + 0) ys (fr.trans (Fr.new hp)) (hd2.new hp) (by omega) (by omega) (by omega) (hyr _ (by omega))
    | false =>
      refine ⟨hs, fun p hp => ⟨by omega, ?_⟩⟩
      exact hQ _ (many + 0) ys (fr.trans (Fr.new hp)) (hd2.new hp) (by omega) (by omega) (by omega) (hyr _ (by omega))
  -- one tie more
  have mid : ∀ (S2 : Sto) (p1 q : Addr) (us : List (Int × Int × Int)) (ps : List (Int × Int)), Fr [h] S S2 → Hand S2 h → S p1 = none → S2 p1 = some (.lst (us.map tD)) → S2 q = some (.lst (ps.map pD)) → h ≠ p1 → h ≠ q → p1 ≠ q → us.length ≤ 300 → ps.length ≤ 400 → (∀ t ∈ us, InR many t) → (∀ x ∈ ps, PR many x) →
      wpSs TO k_l_otherwise_4 ⟨fun _ S' => Q .non S', Q⟩ [some (.ref h), some (webD many ts), some (.int way), some (.int many), some (.ref p1), some (.ref q), none, none] S2 := by
    intro S2 p1 q us ps fr hd2 hn1 e1 eq n1 nq npq hul hpl hur hpr
    have stay := fun (S3 : Sto) (f3 : Fr [h] S S3) (d3 : Hand S3 h) (e3 : S3 p1 = some (.lst (us.map tD))) => fin S3 p1 (.ref q) none none us f3 d3 e3 (by omega) hur
    simp only [k_l_otherwise_4, s_l_otherwise_4, wpSs, G.wpS, wpE, wpT, wpTs, wpI, wpEs, wpBin, wpCmp, wpLt, wpIx, wpBI, wpMI, tyMI, wpAug, parSet, asg_nm, asg_tp, asg_nil, asg_cons, wipeD, startD, SeqD, ListD, List.map_cons, List.map_nil, List.length_cons, List.length_nil, List.cons_append, List.nil_append, List.getElem?_cons_zero, List.getElem?_cons_succ, List.replicate, List.set_cons_zero, List.set_cons_succ, Option.some.injEq, Cell.lst.injEq, D.int.injEq, D.ref.injEq, D.tup.injEq, D.bl.injEq, exists_eq_left, exists_eq_left', exists_and_left, exists_and_right, exists_eq_right, exists_eq, and_true, true_and, sup_same, eq_ii, ng_f, ng_t, at0, at1, at2, at3, ix0, ix1, ix2, ix3, Nat.reduceAdd, Nat.reduceSub]
    refine ⟨by omega, in_intsT (ns := [2, 3]) ?_⟩
    cases ng false (decide (way ∈ [2, 3])) with
    | false => exact stay _ fr hd2 e1
    | true =>
      refine ⟨by omega, fun p hp => eq_nilP (sup_old eq hp) sup_same ?_⟩
      have fr' := fr.trans (Fr.new (c := .lst []) hp)
      have hd' := hd2.new (c := .lst []) hp
      have e1' := sup_old (e := .lst []) e1 hp
      have eq' := sup_old (e := .lst []) eq hp
      generalize sup S2 p (.lst []) = S3 at *
      cases hps : ps with
      | nil => exact stay _ fr' hd' e1'
      | cons x0 ps0 =>
        have hpos : 0 < ps.length := by rw [hps]; simp
        rw [← hps]
        have hng : ng true ps.isEmpty = true := by rw [hps]; rfl
        rw [hng]
        simp only [k_l_otherwise_2, s_l_otherwise_2, k_l_otherwise_1, s_l_otherwise_1, TO, wpSs, G.wpS, wpE, wpT, wpTs, wpI, wpEs, wpBin, wpCmp, wpLt, wpIx, wpBI, wpMI, tyMI, wpAug, parSet, asg_nm, asg_tp, asg_nil, asg_cons, wipeD, startD, SeqD, ListD, List.map_cons, List.map_nil, List.length_cons, List.length_nil, List.cons_append, List.nil_append, List.getElem?_cons_zero, List.getElem?_cons_succ, List.replicate, List.set_cons_zero, List.set_cons_succ, Option.some.injEq, Cell.lst.injEq, D.int.injEq, D.ref.injEq, D.tup.injEq, D.bl.injEq, exists_eq_left, exists_eq_left', exists_and_left, exists_and_right, exists_eq_right, exists_eq, and_true, true_and, sup_same, eq_ii, ng_f, ng_t, at0, at1, at2, at3, ix0, ix1, ix2, ix3, Nat.reduceAdd, Nat.reduceSub, eq']
        refine ⟨h, _, rfl, hd', by rw [List.length_map]; omega, by rw [List.length_map]; omega, fun S4 r fr4 hd4 r0 r1 => ?_⟩
        rw [List.length_map] at r1
        obtain ⟨x, hx, ex⟩ := at_pairs r0 r1
        have nh1 : p1 ∉ [h] := by simpa using Ne.symm n1
        have nhq : q ∉ [h] := by simpa using Ne.symm nq
        have e4 := fr4.at e1' nh1
        have q4 := fr4.at eq' nhq
        obtain ⟨x1, x2, x3, x4⟩ := hpr x hx
        refine ⟨_, q4, r, rfl, _, ex, ?_⟩
        simp only [pD, wpSs, G.wpS, wpE, wpT, wpTs, wpI, wpEs, wpBin, wpCmp, wpLt, wpIx, wpBI, wpMI, tyMI, wpAug, parSet, asg_nm, asg_tp, asg_nil, asg_cons, wipeD, startD, SeqD, ListD, List.map_cons, List.map_nil, List.length_cons, List.length_nil, List.cons_append, List.nil_append, List.getElem?_cons_zero, List.getElem?_cons_succ, List.replicate, List.set_cons_zero, List.set_cons_succ, Option.some.injEq, Cell.lst.injEq, D.int.injEq, D.ref.injEq, D.tup.injEq, D.bl.injEq, exists_eq_left, exists_eq_left', exists_and_left, exists_and_right, exists_eq_right, exists_eq, and_true, true_and, sup_same, eq_ii, ng_f, ng_t, at0, at1, at2, at3, ix0, ix1, ix2, ix3, Nat.reduceAdd, Nat.reduceSub, e4]
        refine ⟨⟨_, rfl⟩, h, _, rfl, hd4, by omega, by omega, fun S5 f fr5 hd5 f0 f1 => ?_⟩
        have e5 := fr5.at e4 nh1
        refine ⟨by omega, _, e5, by rw [List.length_map]; omega, ?_⟩
        have el : us.map tD ++ [D.tup [.int x.1, .int x.2, .int f]] = (us ++ [(x.1, x.2, f)]).map tD := by rw [List.map_append]; rfl
        rw [el]
        refine fin _ p1 _ _ _ _ (((fr'.trans fr4).trans fr5).put_new hn1) (hd5.put n1) sup_same (by simp; omega) ?_
        intro t ht
        rcases List.mem_append.mp ht with ht | ht
        · exact hur t ht
        · rw [List.mem_singleton.mp ht]; exact ⟨x1, x2, x3, x4⟩
  simp only [b_l_otherwise, k_l_otherwise_7, s_l_otherwise_7, k_l_otherwise_6, s_l_otherwise_6, webD, TO, wpSs, G.wpS, wpE, wpT, wpTs, wpI, wpEs, wpBin, wpCmp, wpLt, wpIx, wpBI, wpMI, tyMI, wpAug, parSet, asg_nm, asg_tp, asg_nil, asg_cons, wipeD, startD, SeqD, ListD, List.map_cons, List.map_nil, List.length_cons, List.length_nil, List.cons_append, List.nil_append, List.getElem?_cons_zero, List.getElem?_cons_succ, List.replicate, List.set_cons_zero, List.set_cons_succ, Option.some.injEq, Cell.lst.injEq, D.int.injEq, D.ref.injEq, D.tup.injEq, D.bl.injEq, exists_eq_left, exists_eq_left', exists_and_left, exists_and_right, exists_eq_right, exists_eq, and_true, true_and, sup_same, eq_ii, ng_f, ng_t, at0, at1, at2, at3, ix0, ix1, ix2, ix3, Nat.reduceAdd, Nat.reduceSub]
  intro p1 hp1
  refine ⟨many, ts, rfl, h1, h2, hl, fun S1 q ps fr1 hq eq hpl hpr => ?_⟩
  have e1 : S1 p1 = some (.lst (ts.map tD)) := fr1.at sup_same (by simp)
  have n1 := hd.ne hp1
  have hd0 := hd.new (c := .lst (ts.map tD)) hp1
  have nq : h ≠ q := hd0.ne hq
  have npq : p1 ≠ q := sto_ne sup_same hq
  have frA : Fr [h] S S1 := (Fr.new hp1).trans (fr1.weak nofun)
  have hd1 : Hand S1 h := by
    obtain ⟨a, b, c, e, r⟩ := hd0
    exact ⟨a, b, c, fr1.at e (by simp), r⟩
  have stay := fun (S3 : Sto) (f3 : Fr [h] S S3) (d3 : Hand S3 h) (e3 : S3 p1 = some (.lst (ts.map tD))) (e4 : S3 q = some (.lst (ps.map pD))) => mid S3 p1 q ts ps f3 d3 hp1 e3 e4 n1 nq npq hl hpl hr hpr
  simp only [k_l_otherwise_5, s_l_otherwise_5, wpSs, G.wpS, wpE, wpT, wpTs, wpI, wpEs, wpBin, wpCmp, wpLt, wpIx, wpBI, wpMI, tyMI, wpAug, parSet, asg_nm, asg_tp, asg_nil, asg_cons, wipeD, startD, SeqD, ListD, List.map_cons, List.map_nil, List.length_cons, List.length_nil, List.cons_append, List.nil_append, List.getElem?_cons_zero, List.getElem?_cons_succ, List.replicate, List.set_cons_zero, List.set_cons_succ, Option.some.injEq, Cell.lst.injEq, D.int.injEq, D.ref.injEq, D.tup.injEq, D.bl.injEq, exists_eq_left, exists_eq_left', exists_and_left, exists_and_right, exists_eq_right, exists_eq, and_true, true_and, sup_same, eq_ii, ng_f, ng_t, at0, at1, at2, at3, ix0, ix1, ix2, ix3, Nat.reduceAdd, Nat.reduceSub]
  refine ⟨by omega, in_intsT (ns := [1, 3]) ?_⟩
  cases ng false (decide (way ∈ [1, 3])) with
  | false => exact stay _ frA hd1 e1 eq
  | true =>
    refine ⟨by omega, fun p hp => eq_nilT (sup_old e1 hp) sup_same ?_⟩
    have fr' := frA.trans (Fr.new (c := .lst []) hp)
    have hd' := hd1.new (c := .lst []) hp
    have e1' := sup_old (e := .lst []) e1 hp
    have eq' := sup_old (e := .lst []) eq hp
    generalize sup S1 p (.lst []) = S3 at *
    cases hts : ts with
    | nil => rw [hts] at stay e1' ; exact stay _ fr' hd' e1' eq'
    | cons x0 ts0 =>
      have hpos : 0 < ts.length := by rw [hts]; simp
      rw [← hts]
      have hng : ng true ts.isEmpty = true := by rw [hts]; rfl
      rw [hng]
      simp only [k_l_otherwise_0, s_l_otherwise_0, wpSs, G.wpS, wpE, wpT, wpTs, wpI, wpEs, wpBin, wpCmp, wpLt, wpIx, wpBI, wpMI, tyMI, wpAug, parSet, asg_nm, asg_tp, asg_nil, asg_cons, wipeD, startD, SeqD, ListD, List.map_cons, List.map_nil, List.length_cons, List.length_nil, List.cons_append, List.nil_append, List.getElem?_cons_zero, List.getElem?_cons_succ, List.replicate, List.set_cons_zero, List.set_cons_succ, Option.some.injEq, Cell.lst.injEq, D.int.injEq, D.ref.injEq, D.tup.injEq, D.bl.injEq, exists_eq_left, exists_eq_left', exists_and_left, exists_and_right, exists_eq_right, exists_eq, and_true, true_and, sup_same, eq_ii, ng_f, ng_t, at0, at1, at2, at3, ix0, ix1, ix2, ix3, Nat.reduceAdd, Nat.reduceSub, e1']
      refine ⟨⟨_, rfl⟩, h, _, rfl, hd', by rw [List.length_map]; omega, by rw [List.length_map]; omega, fun S4 r fr4 hd4 r0 r1 => ?_⟩
      rw [List.length_map] at r1
      have nh1 : p1 ∉ [h] := by simpa using Ne.symm n1
      have nhq : q ∉ [h] := by simpa using Ne.symm nq
      have e4 := fr4.at e1' nh1
      have q4 := fr4.at eq' nhq
      have hrl : r.toNat < ts.length := by omega
      refine ⟨_, e4, r0, ⟨tD ts[r.toNat], by rw [List.getElem?_map, List.getElem?_eq_getElem hrl]; rfl⟩, ?_⟩
      rw [map_erase]
      refine mid _ p1 q (ts.eraseIdx r.toNat) ps ((fr'.trans fr4).put_new hp1) (hd4.put n1) hp1 sup_same (by rw [sup_ne (Ne.symm npq)]; exact q4) n1 nq npq (by rw [List.length_eraseIdx_of_lt hrl]; omega) hpl (fun t ht => hr t (List.mem_of_mem_eraseIdx ht)) hpr
end K48


namespace K48
open PySem PySem.Spec PyProof.Rows L2 G

theorem ev_ne (cs : List Int) {S : Sto} {Q : QE} (q : Q (.bl false) S) : wpEq true (evD cs) (evD cs) S Q := by
  unfold evD
  split
  · rw [eq_ii, ng_t, decide_eq_true rfl]; exact q
  · exact ⟨.none, .none, rfl, rfl, rfl, rfl, q⟩
theorem ev_kd (cs : List Int) (S : Sto) : (∃ i, evD cs = .int i ∧ kdOf S (evD cs) = some .int) ∨ (evD cs = .non ∧ kdOf S (evD cs) = some .non) := by
  unfold evD
  split
  · exact .inl ⟨_, rfl, rfl⟩
  · exact .inr ⟨rfl, rfl⟩
def TL : Tab := ⟨[("_law_hand", spHand), ("_law_take", spTake), ("_law_otherwise", spOther), ("_law_web", spWeb), ("_law_counts", spCounts), ("evenly", spEvenly)], []⟩
def spLaw : DSp := fun ds S Q => ∃ ns : List Int, ds = [.cl (ns.map D.int)] ∧ ns.length ≤ 63 ∧ ∀ S', Q (.bl true) S'
theorem w_law (ds : List D) (S : Sto) (Q : QE) (hs : spLaw ds S Q) : ds.length = 1 ∧ wpSs TL b_law ⟨fun _ S' => Q .non S', Q⟩ (startD 9 ds) S := by
  obtain ⟨ns, rfl, hn, hQ⟩ := hs
  refine ⟨rfl, ?_⟩
  have hsz : szL = 16777216 := rfl
  simp only [b_law, k_law_10, s_law_10, k_law_9, s_law_9, wpSs, G.wpS, wpE, wpT, wpTs, wpI, wpEs, wpBin, wpCmp, wpLt, wpIx, wpBI, wpMI, tyMI, wpAug, parSet, asg_nm, asg_tp, asg_nil, asg_cons, wipeD, startD, SeqD, ListD, List.map_cons, List.map_nil, List.length_cons, List.length_nil, List.cons_append, List.nil_append, List.getElem?_cons_zero, List.getElem?_cons_succ, List.replicate, List.set_cons_zero, List.set_cons_succ, Option.some.injEq, Cell.lst.injEq, D.int.injEq, D.ref.injEq, D.tup.injEq, D.bl.injEq, exists_eq_left, exists_eq_left', exists_and_left, exists_and_right, exists_eq_right, exists_eq, and_true, true_and, sup_same, eq_ii, ng_f, ng_t, at0, at1, at2, at3, ix0, ix1, ix2, ix3, Nat.reduceAdd, Nat.reduceSub]
  generalize hm : (if (if ((ns.map D.int).length : Int) < 12 then ((ns.map D.int).length : Int) else 12) > 2 then (if ((ns.map D.int).length : Int) < 12 then ((ns.map D.int).length : Int) else 12) else 2) = m
  have hm2 : 2 ≤ m ∧ m ≤ 12 := by
    subst hm
    split <;> split at * <;> omega
  refine ⟨by omega, by omega, ?_⟩
  refine forRun_inv _ (fun i ρ S1 => ∃ x1 x2 x3 x4 x5 x6 x7 x8, ρ = [some (.cl (ns.map D.int)), x1, x2, x3, x4, x5, x6, x7, x8])
    ⟨_, _, _, _, _, _, _, _, rfl⟩ (fun _ _ _ _ _ => trivial) (fun i x ρ S1 N hx ⟨x1, x2, x3, x4, x5, x6, x7, x8, hρ⟩ hN => ?_) (fun ρ S1 _ => hQ _)
  obtain ⟨rfl, hi⟩ := mem_range hx
  subst hρ
  simp only [k_law_8, s_law_8, k_law_7, s_law_7, k_law_6, s_law_6, k_law_5, s_law_5, TL, wpSs, G.wpS, wpE, wpT, wpTs, wpI, wpEs, wpBin, wpCmp, wpLt, wpIx, wpBI, wpMI, tyMI, wpAug, parSet, asg_nm, asg_tp, asg_nil, asg_cons, wipeD, startD, SeqD, ListD, List.map_cons, List.map_nil, List.length_cons, List.length_nil, List.cons_append, List.nil_append, List.getElem?_cons_zero, List.getElem?_cons_succ, List.replicate, List.set_cons_zero, List.set_cons_succ, Option.some.injEq, Cell.lst.injEq, D.int.injEq, D.ref.injEq, D.tup.injEq, D.bl.injEq, exists_eq_left, exists_eq_left', exists_and_left, exists_and_right, exists_eq_right, exists_eq, and_true, true_and, sup_same, eq_ii, ng_f, ng_t, at0, at1, at2, at3, ix0, ix1, ix2, ix3, Nat.reduceAdd, Nat.reduceSub]
  refine ⟨ns, i, rfl, by omega, fun S2 h fr2 hh hd2 => ?_⟩
  refine ⟨h, _, rfl, hd2, by omega, by omega, fun S3 way fr3 hd3 w0 w1 => ?_⟩
  refine ⟨h, rfl, hd3, fun S4 many ts fr4 hd4 m1 m2 tl tr => ?_⟩
  refine ⟨h, many, way, ts, rfl, hd4, m1, m2, tl, tr, fun S5 many' us fr5 hd5 m3 m4 ul ur => ?_⟩
  refine ⟨many', us, rfl, m3, by omega, by omega, ur, fun S6 p fr6 hp ep => ?_⟩
  have hne := cnts_ne (ts := us) m3
  generalize hcs : cnts many' us = cs at *
  simp only [k_law_4, s_law_4, k_law_3, s_law_3, wpSs, G.wpS, wpE, wpT, wpTs, wpI, wpEs, wpBin, wpCmp, wpLt, wpIx, wpBI, wpMI, tyMI, wpAug, parSet, asg_nm, asg_tp, asg_nil, asg_cons, wipeD, startD, SeqD, ListD, List.map_cons, List.map_nil, List.length_cons, List.length_nil, List.cons_append, List.nil_append, List.getElem?_cons_zero, List.getElem?_cons_succ, List.replicate, List.set_cons_zero, List.set_cons_succ, Option.some.injEq, Cell.lst.injEq, D.int.injEq, D.ref.injEq, D.tup.injEq, D.bl.injEq, exists_eq_left, exists_eq_left', exists_and_left, exists_and_right, exists_eq_right, exists_eq, and_true, true_and, sup_same, eq_ii, ng_f, ng_t, at0, at1, at2, at3, ix0, ix1, ix2, ix3, Nat.reduceAdd, Nat.reduceSub]
  refine ⟨cs, ep, hne, fun mn hmn hmn2 => ⟨cs, ep, hne, fun mx hmx hmx2 => ?_⟩⟩
  obtain ⟨a1, a2⟩ := ev_eq hne hmn hmn2 hmx hmx2
  have fin : forRun (fun _ => True) (fun x ρ1 S2 N => wpSs TL k_law_2 ⟨N, Q⟩ (ρ1.set 7 (some x)) S2) ((List.range 2).map fun (k : Nat) => D.int (k : Int))
      [some (.cl (ns.map D.int)), some (.int (i : Int)), some (.ref h), some (.int way), some (webD many' us), some (.ref p), some (evD cs), x7, x8] S6 N := by
    refine forRun_inv _ (fun i2 ρ S7 => ∃ x7 x8, ρ = [some (.cl (ns.map D.int)), some (.int (i : Int)), some (.ref h), some (.int way), some (webD many' us), some (.ref p), some (evD cs), x7, x8])
      ⟨_, _, rfl⟩ (fun _ _ _ _ _ => trivial) (fun i2 x ρ S7 N' hx ⟨x7, x8, hρ⟩ hN' => ?_) (fun ρ S7 ⟨x7, x8, hρ⟩ => hN _ _ ⟨_, _, _, _, _, _, _, _, hρ⟩)
    subst hρ
    simp only [k_law_2, s_law_2, k_law_1, s_law_1, TL, wpSp, wpSs, G.wpS, wpE, wpT, wpTs, wpI, wpEs, wpBin, wpCmp, wpLt, wpIx, wpBI, wpMI, tyMI, wpAug, parSet, asg_nm, asg_tp, asg_nil, asg_cons, wipeD, startD, SeqD, ListD, List.map_cons, List.map_nil, List.length_cons, List.length_nil, List.cons_append, List.nil_append, List.getElem?_cons_zero, List.getElem?_cons_succ, List.replicate, List.set_cons_zero, List.set_cons_succ, Option.some.injEq, Cell.lst.injEq, D.int.injEq, D.ref.injEq, D.tup.injEq, D.bl.injEq, exists_eq_left, exists_eq_left', exists_and_left, exists_and_right, exists_eq_right, exists_eq, and_true, true_and, sup_same, eq_ii, ng_f, ng_t, at0, at1, at2, at3, ix0, ix1, ix2, ix3, Nat.reduceAdd, Nat.reduceSub]
    refine ⟨many', us, rfl, m3, by omega, by omega, fun S8 fr8 => ?_⟩
    rw [hcs]
    refine ev_ne cs ?_
    rcases ev_kd cs S8 with ⟨j, e1, e2⟩ | ⟨e1, e2⟩
    · rw [e1] at e2 ⊢
      exact ⟨_, e2, false, rfl, false, rfl, _, e2, true, rfl, hN' _ _ ⟨_, _, by rw [e1]⟩⟩
    · rw [e1] at e2 ⊢
      exact ⟨_, e2, false, rfl, true, rfl, hN' _ _ ⟨_, _, by rw [e1]⟩⟩
  by_cases e : mn = mx
  · rw [decide_eq_true e]
    have q := a1 (decide_eq_true e)
    cases hcs2 : cs with
    | nil => exact absurd hcs2 hne
    | cons c cs' =>
      refine ⟨_, ep, _, by rw [hcs2]; exact at0, ?_⟩
      rw [hcs2] at q
      rw [hcs2, q] at fin
      exact ⟨by omega, by omega, fin⟩
  · rw [decide_eq_false e]
    have q := a2 (decide_eq_false e)
    rw [q] at fin
    exact ⟨by omega, by omega, fin⟩
end K48


namespace K48
open PySem PySem.Spec PyProof.Rows L2 G
def dd (x : Str) (i : Nat) : He.DefD := ⟨(x, none), x, x, defArgs (top i), defBody (top i), defScope (top i), [], []⟩
def fn : List He.DefD := [dd "beside" 1, dd "evenly" 3, dd "_law_hand" 5, dd "_law_take" 6, dd "_law_order" 7, dd "_law_ring_pairs" 8, dd "_law_side_pairs" 9, dd "_law_heap_pairs" 10, dd "_law_crossed_pairs" 11, dd "_law_low_first" 12, dd "_law_switched" 13, dd "_law_web" 14, dd "_law_counts" 15, dd "_law_untied" 16, dd "_law_otherwise" 17, dd "law" 18]
def fa : List He.Fa := [.glo "beside", .glo "evenly", .glo "_law_hand", .glo "_law_take", .glo "_law_order", .glo "_law_ring_pairs", .glo "_law_side_pairs", .glo "_law_heap_pairs", .glo "_law_crossed_pairs", .glo "_law_low_first", .glo "_law_switched", .glo "_law_web", .glo "_law_counts", .glo "_law_untied", .glo "_law_otherwise", .glo "law", .free "len", .free "abs", .free "min", .free "max", .free "sum", .free "all", .free "any", .free "sorted", .free "tuple", .free "list", .free "int", .free "range", .free "enumerate", .free "zip", .free "isinstance", .free "bool", .free "str", .free "dict", .free "set", .free "repr"]
section
variable {P : Program} {w : World} {K : PySem.W.Frag} {mg : Str → Option Value} {base h : Heap}
/-- a def of the top, known by its name -/
def Fx (K : PySem.W.Frag) (mg : Str → Option Value) (x : Str) (i : Nat) : Prop := mg x = some (.ref (He.ga K x)) ∧ ∃ fd, FunD K x x (defArgs (top i)) (defBody (top i)) (defScope (top i)) [] [] (He.ga K x) fd
theorem a_beside (B : Bare mg) (F : Fx K mg "beside" 1)  : FnAt P w K mg base 1 "beside" spBeside := by
  obtain ⟨hm, fd, F⟩ := F
  exact fn_sound F hm (ps := p_beside) (F.bindsN fun _ _ _ _ _ _ us hl => match us, hl with | [_, _], _ => rfl) s_beside B ⟨[], []⟩ f_beside g_beside b_beside spBeside (fun i y h => match i, h with | _, h => by cases (show none = some _ from h)) (fun i y h => match i, h with | _, h => by cases (show none = some _ from h)) c_beside w_beside
theorem a_l_hand (B : Bare mg) (F : Fx K mg "_law_hand" 5)  : FnAt P w K mg base 1 "_law_hand" spHand := by
  obtain ⟨hm, fd, F⟩ := F
  exact fn_sound F hm (ps := p_l_hand) (F.bindsN fun _ _ _ _ _ _ us hl => match us, hl with | [_, _], _ => rfl) s_l_hand B ⟨[], []⟩ f_l_hand g_l_hand b_l_hand spHand (fun i y h => match i, h with | _, h => by cases (show none = some _ from h)) (fun i y h => match i, h with | _, h => by cases (show none = some _ from h)) c_l_hand w_hand
theorem a_l_take (B : Bare mg) (F : Fx K mg "_law_take" 6)  : FnAt P w K mg base 1 "_law_take" spTake := by
  obtain ⟨hm, fd, F⟩ := F
  exact fn_sound F hm (ps := p_l_take) (F.bindsN fun _ _ _ _ _ _ us hl => match us, hl with | [_, _], _ => rfl) s_l_take B ⟨[], []⟩ f_l_take g_l_take b_l_take spTake (fun i y h => match i, h with | _, h => by cases (show none = some _ from h)) (fun i y h => match i, h with | _, h => by cases (show none = some _ from h)) c_l_take w_take
theorem a_l_low_first (B : Bare mg) (F : Fx K mg "_law_low_first" 12)  : FnAt P w K mg base 1 "_law_low_first" spLow := by
  obtain ⟨hm, fd, F⟩ := F
  exact fn_sound F hm (ps := p_l_low_first) (F.bindsN fun _ _ _ _ _ _ us hl => match us, hl with | [_, _], _ => rfl) s_l_low_first B ⟨[], []⟩ f_l_low_first g_l_low_first b_l_low_first spLow (fun i y h => match i, h with | _, h => by cases (show none = some _ from h)) (fun i y h => match i, h with | _, h => by cases (show none = some _ from h)) c_l_low_first w_low
theorem a_l_counts (B : Bare mg) (F : Fx K mg "_law_counts" 15)  : FnAt P w K mg base 1 "_law_counts" spCounts := by
  obtain ⟨hm, fd, F⟩ := F
  exact fn_sound F hm (ps := p_l_counts) (F.bindsN fun _ _ _ _ _ _ us hl => match us, hl with | [_], _ => rfl) s_l_counts B ⟨[], []⟩ f_l_counts g_l_counts b_l_counts spCounts (fun i y h => match i, h with | _, h => by cases (show none = some _ from h)) (fun i y h => match i, h with | _, h => by cases (show none = some _ from h)) c_l_counts w_counts
theorem a_l_untied (B : Bare mg) (F : Fx K mg "_law_untied" 16)  : FnAt P w K mg base 1 "_law_untied" spUntied := by
  obtain ⟨hm, fd, F⟩ := F
  exact fn_sound F hm (ps := p_l_untied) (F.bindsN fun _ _ _ _ _ _ us hl => match us, hl with | [_], _ => rfl) s_l_untied B ⟨[], []⟩ f_l_untied g_l_untied b_l_untied spUntied (fun i y h => match i, h with | _, h => by cases (show none = some _ from h)) (fun i y h => match i, h with | _, h => by cases (show none = some _ from h)) c_l_untied w_untied
theorem a_evenly (B : Bare mg) (F : Fx K mg "evenly" 3) (A_beside : FnAt P w K mg base 1 "beside" spBeside) : FnAt P w K mg base 2 "evenly" spEvenly := by
  obtain ⟨hm, fd, F⟩ := F
  exact fn_sound F hm (ps := p_evenly) (F.bindsN fun _ _ _ _ _ _ us hl => match us, hl with | [_], _ => rfl) s_evenly B ⟨[("beside", spBeside)], []⟩ f_evenly g_evenly b_evenly spEvenly (fun i y h => match i, h with | 0, h => by cases (show some _ = some _ from h); exact ⟨_, 1, rfl, by decide, A_beside⟩ | _ + 1, h => by cases (show none = some _ from h)) (fun i y h => match i, h with | _, h => by cases (show none = some _ from h)) c_evenly w_evenly
theorem a_l_order (B : Bare mg) (F : Fx K mg "_law_order" 7) (A_l_take : FnAt P w K mg base 1 "_law_take" spTake) : FnAt P w K mg base 2 "_law_order" spOrder := by
  obtain ⟨hm, fd, F⟩ := F
  exact fn_sound F hm (ps := p_l_order) (F.bindsN fun _ _ _ _ _ _ us hl => match us, hl with | [_, _], _ => rfl) s_l_order B ⟨[("_law_take", spTake)], []⟩ f_l_order g_l_order b_l_order spOrder (fun i y h => match i, h with | 0, h => by cases (show some _ = some _ from h); exact ⟨_, 1, rfl, by decide, A_l_take⟩ | _ + 1, h => by cases (show none = some _ from h)) (fun i y h => match i, h with | _, h => by cases (show none = some _ from h)) c_l_order w_order
theorem a_l_ring_pairs (B : Bare mg) (F : Fx K mg "_law_ring_pairs" 8) (A_l_take : FnAt P w K mg base 1 "_law_take" spTake) : FnAt P w K mg base 2 "_law_ring_pairs" spPairs := by
  obtain ⟨hm, fd, F⟩ := F
  exact fn_sound F hm (ps := p_l_ring_pairs) (F.bindsN fun _ _ _ _ _ _ us hl => match us, hl with | [_], _ => rfl) s_l_ring_pairs B ⟨[("_law_take", spTake)], []⟩ f_l_ring_pairs g_l_ring_pairs b_l_ring_pairs spPairs (fun i y h => match i, h with | 0, h => by cases (show some _ = some _ from h); exact ⟨_, 1, rfl, by decide, A_l_take⟩ | _ + 1, h => by cases (show none = some _ from h)) (fun i y h => match i, h with | _, h => by cases (show none = some _ from h)) c_l_ring_pairs w_ring
theorem a_l_side_pairs (B : Bare mg) (F : Fx K mg "_law_side_pairs" 9) (A_l_take : FnAt P w K mg base 1 "_law_take" spTake) : FnAt P w K mg base 2 "_law_side_pairs" spPairs := by
  obtain ⟨hm, fd, F⟩ := F
  exact fn_sound F hm (ps := p_l_side_pairs) (F.bindsN fun _ _ _ _ _ _ us hl => match us, hl with | [_], _ => rfl) s_l_side_pairs B ⟨[("_law_take", spTake)], []⟩ f_l_side_pairs g_l_side_pairs b_l_side_pairs spPairs (fun i y h => match i, h with | 0, h => by cases (show some _ = some _ from h); exact ⟨_, 1, rfl, by decide, A_l_take⟩ | _ + 1, h => by cases (show none = some _ from h)) (fun i y h => match i, h with | _, h => by cases (show none = some _ from h)) c_l_side_pairs w_side
theorem a_l_heap_pairs (B : Bare mg) (F : Fx K mg "_law_heap_pairs" 10) (A_l_take : FnAt P w K mg base 1 "_law_take" spTake) : FnAt P w K mg base 2 "_law_heap_pairs" spPairs := by
  obtain ⟨hm, fd, F⟩ := F
  exact fn_sound F hm (ps := p_l_heap_pairs) (F.bindsN fun _ _ _ _ _ _ us hl => match us, hl with | [_], _ => rfl) s_l_heap_pairs B ⟨[("_law_take", spTake)], []⟩ f_l_heap_pairs g_l_heap_pairs b_l_heap_pairs spPairs (fun i y h => match i, h with | 0, h => by cases (show some _ = some _ from h); exact ⟨_, 1, rfl, by decide, A_l_take⟩ | _ + 1, h => by cases (show none = some _ from h)) (fun i y h => match i, h with | _, h => by cases (show none = some _ from h)) c_l_heap_pairs w_heap
theorem a_l_crossed_pairs (B : Bare mg) (F : Fx K mg "_law_crossed_pairs" 11) (A_l_take : FnAt P w K mg base 1 "_law_take" spTake) : FnAt P w K mg base 2 "_law_crossed_pairs" spPairs := by
  obtain ⟨hm, fd, F⟩ := F
  exact fn_sound F hm (ps := p_l_crossed_pairs) (F.bindsN fun _ _ _ _ _ _ us hl => match us, hl with | [_], _ => rfl) s_l_crossed_pairs B ⟨[("_law_take", spTake)], []⟩ f_l_crossed_pairs g_l_crossed_pairs b_l_crossed_pairs spPairs (fun i y h => match i, h with | 0, h => by cases (show some _ = some _ from h); exact ⟨_, 1, rfl, by decide, A_l_take⟩ | _ + 1, h => by cases (show none = some _ from h)) (fun i y h => match i, h with | _, h => by cases (show none = some _ from h)) c_l_crossed_pairs w_crossed
theorem a_l_switched (B : Bare mg) (F : Fx K mg "_law_switched" 13) (A_l_take : FnAt P w K mg base 1 "_law_take" spTake) (A_l_low_first : FnAt P w K mg base 1 "_law_low_first" spLow) : FnAt P w K mg base 2 "_law_switched" spSwitched := by
  obtain ⟨hm, fd, F⟩ := F
  exact fn_sound F hm (ps := p_l_switched) (F.bindsN fun _ _ _ _ _ _ us hl => match us, hl with | [_, _], _ => rfl) s_l_switched B ⟨[("_law_take", spTake), ("_law_low_first", spLow)], []⟩ f_l_switched g_l_switched b_l_switched spSwitched (fun i y h => match i, h with | 0, h => by cases (show some _ = some _ from h); exact ⟨_, 1, rfl, by decide, A_l_take⟩ | 1, h => by cases (show some _ = some _ from h); exact ⟨_, 1, rfl, by decide, A_l_low_first⟩ | _ + 2, h => by cases (show none = some _ from h)) (fun i y h => match i, h with | _, h => by cases (show none = some _ from h)) c_l_switched w_switched
theorem a_l_otherwise (B : Bare mg) (F : Fx K mg "_law_otherwise" 17) (A_l_untied : FnAt P w K mg base 1 "_law_untied" spUntied) (A_l_take : FnAt P w K mg base 1 "_law_take" spTake) : FnAt P w K mg base 2 "_law_otherwise" spOther := by
  obtain ⟨hm, fd, F⟩ := F
  exact fn_sound F hm (ps := p_l_otherwise) (F.bindsN fun _ _ _ _ _ _ us hl => match us, hl with | [_, _, _], _ => rfl) s_l_otherwise B TO f_l_otherwise g_l_otherwise b_l_otherwise spOther (fun i y h => match i, h with | 0, h => by cases (show some _ = some _ from h); exact ⟨_, 1, rfl, by decide, A_l_untied⟩ | 1, h => by cases (show some _ = some _ from h); exact ⟨_, 1, rfl, by decide, A_l_take⟩ | _ + 2, h => by cases (show none = some _ from h)) (fun i y h => match i, h with | _, h => by cases (show none = some _ from h)) c_l_otherwise w_other
theorem a_l_web (B : Bare mg) (F : Fx K mg "_law_web" 14) (A_l_take : FnAt P w K mg base 1 "_law_take" spTake) (A_l_ring_pairs : FnAt P w K mg base 2 "_law_ring_pairs" spPairs) (A_l_side_pairs : FnAt P w K mg base 2 "_law_side_pairs" spPairs) (A_l_heap_pairs : FnAt P w K mg base 2 "_law_heap_pairs" spPairs) (A_l_crossed_pairs : FnAt P w K mg base 2 "_law_crossed_pairs" spPairs) (A_l_low_first : FnAt P w K mg base 1 "_law_low_first" spLow) (A_l_switched : FnAt P w K mg base 2 "_law_switched" spSwitched) (A_l_order : FnAt P w K mg base 2 "_law_order" spOrder) : FnAt P w K mg base 3 "_law_web" spWeb := by
  obtain ⟨hm, fd, F⟩ := F
  exact fn_sound F hm (ps := p_l_web) (F.bindsN fun _ _ _ _ _ _ us hl => match us, hl with | [_], _ => rfl) s_l_web B TW f_l_web g_l_web b_l_web spWeb (fun i y h => match i, h with | 0, h => by cases (show some _ = some _ from h); exact ⟨_, 1, rfl, by decide, A_l_take⟩ | 1, h => by cases (show some _ = some _ from h); exact ⟨_, 2, rfl, by decide, A_l_ring_pairs⟩ | 2, h => by cases (show some _ = some _ from h); exact ⟨_, 2, rfl, by decide, A_l_side_pairs⟩ | 3, h => by cases (show some _ = some _ from h); exact ⟨_, 2, rfl, by decide, A_l_heap_pairs⟩ | 4, h => by cases (show some _ = some _ from h); exact ⟨_, 2, rfl, by decide, A_l_crossed_pairs⟩ | 5, h => by cases (show some _ = some _ from h); exact ⟨_, 1, rfl, by decide, A_l_low_first⟩ | 6, h => by cases (show some _ = some _ from h); exact ⟨_, 2, rfl, by decide, A_l_switched⟩ | 7, h => by cases (show some _ = some _ from h); exact ⟨_, 2, rfl, by decide, A_l_order⟩ | _ + 8, h => by cases (show none = some _ from h)) (fun i y h => match i, h with | _, h => by cases (show none = some _ from h)) c_l_web w_web
theorem a_law (B : Bare mg) {fd : FuncData} (F : FunD K "law" "law" (defArgs (top 18)) (defBody (top 18)) (defScope (top 18)) [] [] (He.ga K "law") fd) (A_l_hand : FnAt P w K mg base 1 "_law_hand" spHand) (A_l_take : FnAt P w K mg base 1 "_law_take" spTake) (A_l_otherwise : FnAt P w K mg base 2 "_law_otherwise" spOther) (A_l_web : FnAt P w K mg base 3 "_law_web" spWeb) (A_l_counts : FnAt P w K mg base 1 "_law_counts" spCounts) (A_evenly : FnAt P w K mg base 2 "evenly" spEvenly) : FnOk P w K mg base C8.CX0 4 (He.ga K "law") fd p_law (spOf K 1 spLaw) :=
  fn_okG F s_law B TL f_law g_law b_law spLaw (fun i y h => match i, h with | 0, h => by cases (show some _ = some _ from h); exact ⟨_, 1, rfl, by decide, A_l_hand⟩ | 1, h => by cases (show some _ = some _ from h); exact ⟨_, 1, rfl, by decide, A_l_take⟩ | 2, h => by cases (show some _ = some _ from h); exact ⟨_, 2, rfl, by decide, A_l_otherwise⟩ | 3, h => by cases (show some _ = some _ from h); exact ⟨_, 3, rfl, by decide, A_l_web⟩ | 4, h => by cases (show some _ = some _ from h); exact ⟨_, 1, rfl, by decide, A_l_counts⟩ | 5, h => by cases (show some _ = some _ from h); exact ⟨_, 2, rfl, by decide, A_evenly⟩ | _ + 6, h => by cases (show none = some _ from h)) (fun i y h => match i, h with | _, h => by cases (show none = some _ from h)) c_law w_law
end
abbrev R : PySem.W.OpenRow := PySem.W.OpenLaw.row PySem.Challenge.rw_ringcover_k48_ties_counted
abbrev hk : PySem.W.Hook := He.hookD 4 fa fn
def ob (s : PySem.W.SharedT) : He.AlD := He.obsDG 4 fa fn (HandSHeadRun.getT s)
theorem ob_eq (s : PySem.W.SharedT) : ob s = hk.obs s.abs := He.obsDG_eq (HandSHeadRun.getT_eq s)
def loose : List Str := ["beside", "evenly", "_law_hand", "_law_take", "_law_order", "_law_ring_pairs", "_law_side_pairs", "_law_heap_pairs", "_law_crossed_pairs", "_law_low_first", "_law_switched", "_law_web", "_law_counts", "_law_untied", "_law_otherwise"]
theorem run (w : World) : HandSHeadRun.RunEq R (PySem.W.view R.prog [18]) hk ob 800 loose w := by
  intro os
  kernel_rfl
theorem facts {P : Program} {w : World} {K : PySem.W.Frag} {h : Heap} {mg : Str → Option Value} {f : Addr} (X : K.In h) (G : h.Ns mainGlobals mg) (hfa : mg ("law" : Str) = some (.ref f)) (c : He.SaysD fa fn K) :
    ∃ fd : FuncData, (∀ (s : Shared) (v : Value), BindsTo s fd ⟨[v], []⟩ [("_law_script", v)]) ∧ ∀ base : Heap, K.In base → base.Ns mainGlobals mg → FnOk P w K mg base C8.CX0 4 f fd ["_law_script"] (spOf K 1 spLaw) := by
  have F_beside : Fx K mg "beside" 1 := ⟨He.glo_ok X G (c.fact 0 (f := .glo "beside") rfl), c.def_ 0 (d := dd "beside" 1) rfl⟩
  have F_evenly : Fx K mg "evenly" 3 := ⟨He.glo_ok X G (c.fact 1 (f := .glo "evenly") rfl), c.def_ 1 (d := dd "evenly" 3) rfl⟩
  have F_l_hand : Fx K mg "_law_hand" 5 := ⟨He.glo_ok X G (c.fact 2 (f := .glo "_law_hand") rfl), c.def_ 2 (d := dd "_law_hand" 5) rfl⟩
  have F_l_take : Fx K mg "_law_take" 6 := ⟨He.glo_ok X G (c.fact 3 (f := .glo "_law_take") rfl), c.def_ 3 (d := dd "_law_take" 6) rfl⟩
  have F_l_order : Fx K mg "_law_order" 7 := ⟨He.glo_ok X G (c.fact 4 (f := .glo "_law_order") rfl), c.def_ 4 (d := dd "_law_order" 7) rfl⟩
  have F_l_ring_pairs : Fx K mg "_law_ring_pairs" 8 := ⟨He.glo_ok X G (c.fact 5 (f := .glo "_law_ring_pairs") rfl), c.def_ 5 (d := dd "_law_ring_pairs" 8) rfl⟩
  have F_l_side_pairs : Fx K mg "_law_side_pairs" 9 := ⟨He.glo_ok X G (c.fact 6 (f := .glo "_law_side_pairs") rfl), c.def_ 6 (d := dd "_law_side_pairs" 9) rfl⟩
  have F_l_heap_pairs : Fx K mg "_law_heap_pairs" 10 := ⟨He.glo_ok X G (c.fact 7 (f := .glo "_law_heap_pairs") rfl), c.def_ 7 (d := dd "_law_heap_pairs" 10) rfl⟩
  have F_l_crossed_pairs : Fx K mg "_law_crossed_pairs" 11 := ⟨He.glo_ok X G (c.fact 8 (f := .glo "_law_crossed_pairs") rfl), c.def_ 8 (d := dd "_law_crossed_pairs" 11) rfl⟩
  have F_l_low_first : Fx K mg "_law_low_first" 12 := ⟨He.glo_ok X G (c.fact 9 (f := .glo "_law_low_first") rfl), c.def_ 9 (d := dd "_law_low_first" 12) rfl⟩
  have F_l_switched : Fx K mg "_law_switched" 13 := ⟨He.glo_ok X G (c.fact 10 (f := .glo "_law_switched") rfl), c.def_ 10 (d := dd "_law_switched" 13) rfl⟩
  have F_l_web : Fx K mg "_law_web" 14 := ⟨He.glo_ok X G (c.fact 11 (f := .glo "_law_web") rfl), c.def_ 11 (d := dd "_law_web" 14) rfl⟩
  have F_l_counts : Fx K mg "_law_counts" 15 := ⟨He.glo_ok X G (c.fact 12 (f := .glo "_law_counts") rfl), c.def_ 12 (d := dd "_law_counts" 15) rfl⟩
  have F_l_untied : Fx K mg "_law_untied" 16 := ⟨He.glo_ok X G (c.fact 13 (f := .glo "_law_untied") rfl), c.def_ 13 (d := dd "_law_untied" 16) rfl⟩
  have F_l_otherwise : Fx K mg "_law_otherwise" 17 := ⟨He.glo_ok X G (c.fact 14 (f := .glo "_law_otherwise") rfl), c.def_ 14 (d := dd "_law_otherwise" 17) rfl⟩
  obtain ⟨fd, F⟩ := c.def_ 15 (d := dd "law" 18) rfl
  have e := hfa.symm.trans (He.glo_ok X G (c.fact 15 (f := .glo "law") rfl))
  cases e
  have B : Bare mg := ⟨fun x hx => by
    unfold bltN at hx
    simp only [List.mem_cons, List.not_mem_nil, or_false] at hx
    rcases hx with rfl | rfl | rfl | rfl | rfl | rfl | rfl | rfl | rfl | rfl | rfl | rfl | rfl | rfl | rfl | rfl | rfl | rfl | rfl | rfl
    · exact He.free_ok X G (c.fact 16 (f := .free "len") rfl)
    · exact He.free_ok X G (c.fact 17 (f := .free "abs") rfl)
    · exact He.free_ok X G (c.fact 18 (f := .free "min") rfl)
    · exact He.free_ok X G (c.fact 19 (f := .free "max") rfl)
    · exact He.free_ok X G (c.fact 20 (f := .free "sum") rfl)
    · exact He.free_ok X G (c.fact 21 (f := .free "all") rfl)
    · exact He.free_ok X G (c.fact 22 (f := .free "any") rfl)
    · exact He.free_ok X G (c.fact 23 (f := .free "sorted") rfl)
    · exact He.free_ok X G (c.fact 24 (f := .free "tuple") rfl)
    · exact He.free_ok X G (c.fact 25 (f := .free "list") rfl)
    · exact He.free_ok X G (c.fact 26 (f := .free "int") rfl)
    · exact He.free_ok X G (c.fact 27 (f := .free "range") rfl)
    · exact He.free_ok X G (c.fact 28 (f := .free "enumerate") rfl)
    · exact He.free_ok X G (c.fact 29 (f := .free "zip") rfl)
    · exact He.free_ok X G (c.fact 30 (f := .free "isinstance") rfl)
    · exact He.free_ok X G (c.fact 31 (f := .free "bool") rfl)
    · exact He.free_ok X G (c.fact 32 (f := .free "str") rfl)
    · exact He.free_ok X G (c.fact 33 (f := .free "dict") rfl)
    · exact He.free_ok X G (c.fact 34 (f := .free "set") rfl)
    · exact He.free_ok X G (c.fact 35 (f := .free "repr") rfl)
    ⟩
  have b := FunD.bindsA (ps := ["_law_script"]) F fun _ _ _ _ _ _ us hl => match us, hl with | [_], _ => rfl
  refine ⟨fd, fun s v => b s [v] rfl, fun base _ _ => ?_⟩
  have A_beside : FnAt P w K mg base 1 "beside" spBeside := a_beside B F_beside 
  have A_l_hand : FnAt P w K mg base 1 "_law_hand" spHand := a_l_hand B F_l_hand 
  have A_l_take : FnAt P w K mg base 1 "_law_take" spTake := a_l_take B F_l_take 
  have A_l_low_first : FnAt P w K mg base 1 "_law_low_first" spLow := a_l_low_first B F_l_low_first 
  have A_l_counts : FnAt P w K mg base 1 "_law_counts" spCounts := a_l_counts B F_l_counts 
  have A_l_untied : FnAt P w K mg base 1 "_law_untied" spUntied := a_l_untied B F_l_untied 
  have A_evenly : FnAt P w K mg base 2 "evenly" spEvenly := a_evenly B F_evenly A_beside
  have A_l_order : FnAt P w K mg base 2 "_law_order" spOrder := a_l_order B F_l_order A_l_take
  have A_l_ring_pairs : FnAt P w K mg base 2 "_law_ring_pairs" spPairs := a_l_ring_pairs B F_l_ring_pairs A_l_take
  have A_l_side_pairs : FnAt P w K mg base 2 "_law_side_pairs" spPairs := a_l_side_pairs B F_l_side_pairs A_l_take
  have A_l_heap_pairs : FnAt P w K mg base 2 "_law_heap_pairs" spPairs := a_l_heap_pairs B F_l_heap_pairs A_l_take
  have A_l_crossed_pairs : FnAt P w K mg base 2 "_law_crossed_pairs" spPairs := a_l_crossed_pairs B F_l_crossed_pairs A_l_take
  have A_l_switched : FnAt P w K mg base 2 "_law_switched" spSwitched := a_l_switched B F_l_switched A_l_take A_l_low_first
  have A_l_otherwise : FnAt P w K mg base 2 "_law_otherwise" spOther := a_l_otherwise B F_l_otherwise A_l_untied A_l_take
  have A_l_web : FnAt P w K mg base 3 "_law_web" spWeb := a_l_web B F_l_web A_l_take A_l_ring_pairs A_l_side_pairs A_l_heap_pairs A_l_crossed_pairs A_l_low_first A_l_switched A_l_order
  exact a_law B F A_l_hand A_l_take A_l_otherwise A_l_web A_l_counts A_evenly
end K48
open PySem PySem.W PySem.Calls PyProof.Rows
theorem PySem.Challenge.cw_ringcover_k48_ties_counted_holds : PySem.Challenge.rw_ringcover_k48_ties_counted.Holds := by
  w_on; o_law
  refine HandSHeadRun.head_any (r := OpenLaw.row PySem.Challenge.rw_ringcover_k48_ties_counted) (q := view (OpenLaw.row PySem.Challenge.rw_ringcover_k48_ties_counted).prog [18]) (H := K48.hk) (ob := K48.ob) (M := 800) (loose := K48.loose) (d := HandSHeadRun.topDef (OpenLaw.row PySem.Challenge.rw_ringcover_k48_ties_counted).prog 18) (kwd := []) K48.ob_eq
    (by kernel_rfl) (fun s => by kernel_rfl) K48.run (by kernel_rfl) (by kernel_rfl) (by kernel_rfl) (by rfl) (by first | assumption | decide +kernel) (by decide +kernel) ⟨rfl, rfl, rfl, rfl, rfl, by decide +kernel⟩ ?hw ?hc
  case hw => w_witness2
  case hc =>
    refine L2.walk_ofE (l := PySem.Challenge.rw_ringcover_k48_ties_counted) (n := 63) (k := 4) (x := "_law_script") (CX := C8.CX0) rfl (by decide) (by kernel_rfl) ⟨rfl, by decide, by decide⟩ ?F (fun _ _ _ _ z => z)
    intro w mg fa h Y G hmg0
    obtain ⟨K, KX, c⟩ := Y
    have hmg : mg ("law" : PySem.Str) = some (.ref fa) := by
      have e : (HandSHeadRun.topDef (OpenLaw.row PySem.Challenge.rw_ringcover_k48_ties_counted).prog 18).name = ("law" : PySem.Str) := by kernel_rfl
      rw [← e]
      exact hmg0
    obtain ⟨fd, hb, hF⟩ := K48.facts (P := (PySem.Challenge.rw_ringcover_k48_ties_counted).prog) (w := w) KX G hmg c
    exact ⟨K, fd, _, KX, hb, fun H a ns hl hO hS => _root_.G.law_at (fun ns S Q hl _ hQ => ⟨ns, rfl, hl, hQ⟩) (by decide) H a ns hl hO hS, hF⟩


