import PyProof.Rows.All
import Wide.All
import OpenK.AllK
import Wide.FinOn
import HandS.ForMost
import HandS.ForExc
import HandS.Lambda
import HandS.TupAny
import HandS.IsInst
import HandS.Style
import HandS.Zip
import KE.KDictZip
import KE.GoesMore
import KE.GoesZip
import HandS.ListItems
import HandS.TryMany
import HandS.ExcIs
import HandS.ExcField
import HandS.Defaults
import HandS.HeadHook4
import HandS.HeadWalk
import HandS.Head0
import HandS.Head1
import HandS.Head2
import HandS.HeadEnd
import PySem.Challenge.RW_everytextread_k34_edits_of_texts_and_the
set_option Elab.async false
set_option linter.all false
set_option maxRecDepth 100000
set_option maxHeartbeats 4000000
/-! TL: a layer of tree values over HandS. A tuple is a tree, not an address; the heap tells mutable things alone. -/
namespace TL
open PySem PySem.Spec PyProof.Rows L2
abbrev St := L2.St

/-- values: tuples are trees; rol is a list that is never written -/
inductive T where
  | non | bl (b : Bool) | int (i : Int) | str (x : Str) | tup (xs : List T) | rol (xs : List T) | ref (a : Addr) | ty (n : String)

/-- a list that is read alone and never written -/
def RoL (K : PySem.W.Frag) (H : Hp) (a : Addr) (xs : List V) : Prop :=
  (∃ o, H a = some (.frz o (.lst xs))) ∨
    ∃ (o : Obj) (its : Array Value) (n : Nat), K.lookup a = some o ∧ o.cls = .type "list" ∧ o.dict = none ∧ o.data = .seq its n ∧ its.size ≤ sizeLine ∧ Vals xs its.toList
theorem RoL.sq {K : PySem.W.Frag} {H : Hp} {a : Addr} {xs : List V} (h : RoL K H a xs) : SqL K H a xs := by
  rcases h with h | h
  · exact .inl (.inr h)
  · exact .inr h
theorem sq_cases {K : PySem.W.Frag} {H : Hp} {a : Addr} {xs : List V} (h : SqL K H a xs) : H a = some (.lst xs) ∨ RoL K H a xs := by
  rcases h with (h | h) | h
  · exact .inl h
  · exact .inr (.inl h)
  · exact .inr (.inr h)

mutual
def RelT (K : PySem.W.Frag) (H : Hp) : T → V → Prop
  | .non, v => v = .non
  | .bl b, v => v = .bl b
  | .int i, v => v = .int i
  | .str x, v => v = .str x
  | .tup ts, v => ∃ a vs, v = .ref a ∧ H a = some (.tup vs) ∧ RelTs K H ts vs
  | .rol ts, v => ∃ a vs, v = .ref a ∧ RoL K H a vs ∧ RelTs K H ts vs
  | .ref a, v => v = .ref a
  | .ty n, v => v = .ty n
def RelTs (K : PySem.W.Frag) (H : Hp) : List T → List V → Prop
  | [], vs => vs = []
  | t :: ts, vs => ∃ v r, vs = v :: r ∧ RelT K H t v ∧ RelTs K H ts r
end

/-- what never changes once it stands: tuples, locked things, code objects -/
structure Grow (K : PySem.W.Frag) (H H' : Hp) : Prop where
  t : ∀ a xs, H a = some (.tup xs) → H' a = some (.tup xs)
  f : ∀ a o u, H a = some (.frz o u) → H' a = some (.frz o u)
  c : ∀ a q, H a = some (LamX.CodeO a q) → H' a = some (LamX.CodeO a q)
/-- what may be written, or is new -/
def Wrt : Option HO → Prop
  | none => True
  | some (.lst _) => True
  | some (.dK _) => True
  | some (.dT _) => True
  | _ => False
section
variable {K : PySem.W.Frag} {H H' H1 H2 : Hp} {a p : Addr}
theorem Grow.refl (K : PySem.W.Frag) (H : Hp) : Grow K H H := ⟨fun _ _ h => h, fun _ _ _ h => h, fun _ _ h => h⟩
theorem Grow.trans (g : Grow K H H1) (g' : Grow K H1 H2) : Grow K H H2 := ⟨fun a xs h => g'.t a xs (g.t a xs h), fun a o u h => g'.f a o u (g.f a o u h), fun a q h => g'.c a q (g.c a q h)⟩
theorem Grow.sqT (g : Grow K H H') {xs : List V} (h : SqT K H a xs) : SqT K H' a xs := by
  rcases h with (h | ⟨o, h⟩) | h
  · exact .inl (.inl (g.t _ _ h))
  · exact .inl (.inr ⟨o, g.f _ _ _ h⟩)
  · exact .inr h
theorem Grow.roL (g : Grow K H H') {xs : List V} (h : RoL K H a xs) : RoL K H' a xs := by
  rcases h with ⟨o, h⟩ | h
  · exact .inl ⟨o, g.f _ _ _ h⟩
  · exact .inr h
mutual
theorem RelT.grow (g : Grow K H H') : ∀ {t : T} {v : V}, RelT K H t v → RelT K H' t v
  | .non, v, h => by simp only [RelT] at h ⊢; exact h
  | .bl _, v, h => by simp only [RelT] at h ⊢; exact h
  | .int _, v, h => by simp only [RelT] at h ⊢; exact h
  | .str _, v, h => by simp only [RelT] at h ⊢; exact h
  | .ref _, v, h => by simp only [RelT] at h ⊢; exact h
  | .ty _, v, h => by simp only [RelT] at h ⊢; exact h
  | .tup ts, v, h => by
    simp only [RelT] at h ⊢
    obtain ⟨a, vs, e, s, r⟩ := h
    exact ⟨a, vs, e, g.t _ _ s, RelTs.grow g r⟩
  | .rol ts, v, h => by
    simp only [RelT] at h ⊢
    obtain ⟨a, vs, e, s, r⟩ := h
    exact ⟨a, vs, e, g.roL s, RelTs.grow g r⟩
theorem RelTs.grow (g : Grow K H H') : ∀ {ts : List T} {vs : List V}, RelTs K H ts vs → RelTs K H' ts vs
  | [], vs, h => by simp only [RelTs] at h ⊢; exact h
  | t :: ts, vs, h => by
    simp only [RelTs] at h ⊢
    obtain ⟨v, r, e, h1, h2⟩ := h
    exact ⟨v, r, e, RelT.grow g h1, RelTs.grow g h2⟩
end
theorem RelTs.nil : RelTs K H [] [] := by simp only [RelTs]
theorem RelTs.cons {t : T} {v : V} {ts : List T} {vs : List V} (h : RelT K H t v) (r : RelTs K H ts vs) : RelTs K H (t :: ts) (v :: vs) := by
  simp only [RelTs]; exact ⟨v, vs, rfl, h, r⟩
theorem RelTs.inv_nil {vs : List V} (h : RelTs K H [] vs) : vs = [] := by simpa only [RelTs] using h
theorem RelTs.inv_cons {t : T} {ts : List T} {vs : List V} (h : RelTs K H (t :: ts) vs) : ∃ v r, vs = v :: r ∧ RelT K H t v ∧ RelTs K H ts r := by simpa only [RelTs] using h
theorem RelTs.len : ∀ {ts : List T} {vs : List V}, RelTs K H ts vs → vs.length = ts.length
  | [], vs, h => by rw [h.inv_nil]; rfl
  | t :: ts, vs, h => by
    obtain ⟨v, r, rfl, _, h2⟩ := h.inv_cons
    simp only [List.length_cons, RelTs.len h2]
theorem RelTs.get : ∀ {ts : List T} {vs : List V} {i : Nat} {t : T}, RelTs K H ts vs → ts[i]? = some t → ∃ v, vs[i]? = some v ∧ RelT K H t v
  | [], vs, i, t, h, e => by simp at e
  | t :: ts, vs, 0, t', h, e => by
    obtain ⟨v, r, rfl, h1, _⟩ := h.inv_cons
    simp at e; subst e
    exact ⟨v, by simp, h1⟩
  | t :: ts, vs, i + 1, t', h, e => by
    obtain ⟨v, r, rfl, _, h2⟩ := h.inv_cons
    simpa using RelTs.get (i := i) h2 (by simpa using e)
theorem RelTs.get' : ∀ {ts : List T} {vs : List V} {i : Nat} {v : V}, RelTs K H ts vs → vs[i]? = some v → ∃ t, ts[i]? = some t ∧ RelT K H t v := fun {ts vs i v} h e => by
  have hl := h.len
  have hi : i < vs.length := (List.getElem?_eq_some_iff.mp e).1
  have e1 : ts[i]? = some ts[i] := List.getElem?_eq_getElem (by omega)
  obtain ⟨v', e2, r⟩ := h.get e1
  rw [e] at e2; cases e2
  exact ⟨_, e1, r⟩
theorem RelTs.append : ∀ {ts us : List T} {vs ws : List V}, RelTs K H ts vs → RelTs K H us ws → RelTs K H (ts ++ us) (vs ++ ws)
  | [], us, vs, ws, h, k => by rw [h.inv_nil]; exact k
  | t :: ts, us, vs, ws, h, k => by
    obtain ⟨v, r, rfl, h1, h2⟩ := h.inv_cons
    exact .cons h1 (RelTs.append h2 k)
theorem RelTs.take : ∀ {ts : List T} {vs : List V} (n : Nat), RelTs K H ts vs → RelTs K H (ts.take n) (vs.take n)
  | ts, vs, 0, h => by simp only [List.take_zero]; exact .nil
  | [], vs, n + 1, h => by rw [h.inv_nil]; exact .nil
  | t :: ts, vs, n + 1, h => by
    obtain ⟨v, r, rfl, h1, h2⟩ := h.inv_cons
    exact .cons h1 (RelTs.take n h2)
theorem RelTs.drop : ∀ {ts : List T} {vs : List V} (n : Nat), RelTs K H ts vs → RelTs K H (ts.drop n) (vs.drop n)
  | ts, vs, 0, h => h
  | [], vs, n + 1, h => by rw [h.inv_nil]; exact .nil
  | t :: ts, vs, n + 1, h => by
    obtain ⟨v, r, rfl, h1, h2⟩ := h.inv_cons
    exact RelTs.drop n h2
theorem RelTs.reverse : ∀ {ts : List T} {vs : List V}, RelTs K H ts vs → RelTs K H ts.reverse vs.reverse
  | [], vs, h => by rw [h.inv_nil]; exact .nil
  | t :: ts, vs, h => by
    obtain ⟨v, r, rfl, h1, h2⟩ := h.inv_cons
    rw [List.reverse_cons, List.reverse_cons]
    exact (RelTs.reverse h2).append (.cons h1 .nil)
theorem RelTs.set : ∀ {ts : List T} {vs : List V} {t : T} {v : V} (i : Nat), RelTs K H ts vs → RelT K H t v → RelTs K H (ts.set i t) (vs.set i v)
  | [], vs, _, _, _, h, _ => by rw [h.inv_nil]; exact .nil
  | t :: ts, vs, t', v', 0, h, k => by
    obtain ⟨v, r, rfl, h1, h2⟩ := h.inv_cons
    exact .cons k h2
  | t :: ts, vs, t', v', i + 1, h, k => by
    obtain ⟨v, r, rfl, h1, h2⟩ := h.inv_cons
    exact .cons h1 (RelTs.set i h2 k)
theorem RelTs.replicate {t : T} {v : V} (h : RelT K H t v) : ∀ n : Nat, RelTs K H (List.replicate n t) (List.replicate n v)
  | 0 => .nil
  | n + 1 => .cons h (RelTs.replicate h n)
theorem RelTs.flat {ts : List T} {vs : List V} (h : RelTs K H ts vs) : ∀ n : Nat, RelTs K H (List.replicate n ts).flatten (List.replicate n vs).flatten
  | 0 => .nil
  | n + 1 => by
    rw [List.replicate_succ, List.replicate_succ, List.flatten_cons, List.flatten_cons]
    exact h.append (RelTs.flat h n)
theorem RelTs.ints : ∀ (ns : List Int), RelTs K H (ns.map T.int) (ns.map V.int)
  | [] => .nil
  | n :: ns => .cons (by simp only [RelT]) (RelTs.ints ns)
theorem RelTs.strs : ∀ (ns : List Str), RelTs K H (ns.map T.str) (ns.map V.str)
  | [] => .nil
  | n :: ns => .cons (by simp only [RelT]) (RelTs.strs ns)
theorem RelTs.map_inv {α : Type} {f : α → T} {g : α → V} (hf : ∀ x v, RelT K H (f x) v → v = g x) : ∀ {xs : List α} {vs : List V}, RelTs K H (xs.map f) vs → vs = xs.map g
  | [], vs, h => h.inv_nil
  | x :: xs, vs, h => by
    obtain ⟨v, r, rfl, h1, h2⟩ := h.inv_cons
    rw [hf x v h1, RelTs.map_inv hf h2]
    rfl

/-! ### fresh places -/
theorem Grow.upd {o : HO} (h : Wrt (H p)) : Grow K H (upd H p o) where
  t := fun a xs e => by rw [upd_ne (fun z => by rw [← z, e] at h; exact h)]; exact e
  f := fun a o u e => by rw [upd_ne (fun z => by rw [← z, e] at h; exact h)]; exact e
  c := fun a q e => by rw [upd_ne (fun z => by rw [← z, e] at h; exact h)]; exact e
theorem Grow.new {o : HO} (h : H p = none) : Grow K H (L2.upd H p o) := .upd (by rw [h]; trivial)
end

/-- mutable things, as trees see them -/
inductive O where
  | lst (xs : List T)
  /-- a dict with keys that are ints and texts -/
  | dic (kvs : List (Key × T))
  /-- a dict with keys that are tuples of ints and texts -/
  | dit (kvs : List (List Key × T))
  /-- an exception's own dict: its thing -/
  | exc (t : T)
  /-- a table of code objects, all of one name -/
  | tab (q : Str)
  /-- a code object of that name, and the heap since which it is looked at -/
  | cod (q : Str) (H0 : Hp)
abbrev Hw := Addr → Option O
def updw (W : Hw) (a : Addr) (o : O) : Hw := fun b => if b = a then some o else W b
theorem updw_same {W : Hw} {a : Addr} {o : O} : updw W a o a = some o := by unfold updw; rw [if_pos rfl]
theorem updw_ne {W : Hw} {a b : Addr} {o : O} (h : b ≠ a) : updw W a o b = W b := by unfold updw; rw [if_neg h]
theorem updw_updw {W : Hw} {a : Addr} {o u : O} : updw (updw W a o) a u = updw W a u := by
  funext b; unfold updw; split <;> rfl
theorem updw_self {W : Hw} {a : Addr} {o : O} (h : W a = some o) : updw W a o = W := by
  funext b; unfold updw; split
  · rename_i e; rw [e, h]
  · rfl
/-- the part -/
def Sub (W W' : Hw) : Prop := ∀ a o, W a = some o → W' a = some o
theorem Sub.refl (W : Hw) : Sub W W := fun _ _ h => h
theorem Sub.trans {W W1 W2 : Hw} (a : Sub W W1) (b : Sub W1 W2) : Sub W W2 := fun c o h => b c o (a c o h)
theorem Sub.out {W W' : Hw} (s : Sub W W') {a : Addr} (h : W' a = none) : W a = none := by
  cases e : W a with
  | none => rfl
  | some o => rw [s a o e] at h; cases h
theorem Sub.new {W : Hw} {p : Addr} {o : O} (h : W p = none) : Sub W (updw W p o) := fun a u e => by
  rw [updw_ne (fun z => by rw [z, h] at e; cases e)]; exact e
theorem Sub.upd {W W' : Hw} {p : Addr} {o : O} (h : W p = none) (s : Sub W W') : Sub W (updw W' p o) := fun a u e => by
  rw [updw_ne (fun z => by rw [z, h] at e; cases e)]; exact s a u e

def RelKV (K : PySem.W.Frag) (H : Hp) {κ : Type} : List (κ × T) → List (κ × V) → Prop
  | [], ps => ps = []
  | (k, t) :: r, ps => ∃ v q, ps = (k, v) :: q ∧ RelT K H t v ∧ RelKV K H r q
theorem RelKV.grow {K : PySem.W.Frag} {H H' : Hp} {κ : Type} (g : Grow K H H') : ∀ {ks : List (κ × T)} {ps : List (κ × V)}, RelKV K H ks ps → RelKV K H' ks ps
  | [], ps, h => h
  | (k, t) :: r, ps, h => by
    obtain ⟨v, q, e, h1, h2⟩ := h
    exact ⟨v, q, e, h1.grow g, RelKV.grow g h2⟩
theorem RelKV.len {K : PySem.W.Frag} {H : Hp} {κ : Type} : ∀ {ks : List (κ × T)} {ps : List (κ × V)}, RelKV K H ks ps → ps.length = ks.length
  | [], ps, h => by cases h; rfl
  | (k, t) :: r, ps, h => by
    obtain ⟨v, q, rfl, h1, h2⟩ := h
    simp only [List.length_cons, RelKV.len h2]
def RepO (K : PySem.W.Frag) (H : Hp) (a : Addr) : O → Prop
  | .lst ts => ∃ vs, H a = some (.lst vs) ∧ RelTs K H ts vs
  | .dic kvs => ∃ ps, H a = some (.dK ps) ∧ RelKV K H kvs ps
  | .dit kvs => ∃ ps, H a = some (.dT ps) ∧ RelKV K H kvs ps
  | .exc t => ∃ v, H a = some (.xd [(("thing" : Str), v)]) ∧ RelT K H t v
  | .tab q => LamX.TabS H a q
  | .cod q H0 => H a = some (LamX.CodeO a q) ∧ Grow K H0 H
def Rep (K : PySem.W.Frag) (H : Hp) (W : Hw) : Prop := ∀ a o, W a = some o → RepO K H a o
section
variable {K : PySem.W.Frag} {H H' : Hp} {W W' : Hw} {a p : Addr}
theorem RepO.some {o : O} (h : RepO K H a o) : H a ≠ none := by
  cases o with
  | lst ts => obtain ⟨vs, e, _⟩ := h; rw [e]; intro z; cases z
  | dic ts => obtain ⟨vs, e, _⟩ := h; rw [e]; intro z; cases z
  | dit ts => obtain ⟨vs, e, _⟩ := h; rw [e]; intro z; cases z
  | exc ts => obtain ⟨vs, e, _⟩ := h; rw [e]; intro z; cases z
  | tab q => obtain ⟨vs, e, _⟩ := h; rw [e]; intro z; cases z
  | cod q H0 => have h : H a = Option.some (LamX.CodeO a q) := h.1; rw [h]; intro z; cases z
theorem Rep.free (r : Rep K H W) (h : H p = none) : W p = none := by
  cases e : W p with
  | none => rfl
  | some o => exact absurd h (r p o e).some
theorem Rep.sub (r : Rep K H W) (s : Sub W' W) : Rep K H W' := fun a o e => r a o (s a o e)
theorem RepO.at {o : O} (h : RepO K H a o) (g : Grow K H H') (e : H' a = H a) : RepO K H' a o := by
  cases o with
  | lst ts => obtain ⟨vs, q, r⟩ := h; exact ⟨vs, e.trans q, r.grow g⟩
  | dic ts => obtain ⟨vs, q, r⟩ := h; exact ⟨vs, e.trans q, r.grow g⟩
  | dit ts => obtain ⟨vs, q, r⟩ := h; exact ⟨vs, e.trans q, r.grow g⟩
  | exc ts => obtain ⟨vs, q, r⟩ := h; exact ⟨vs, e.trans q, r.grow g⟩
  | tab q =>
    obtain ⟨ps, h1, h2, h3⟩ := h
    refine ⟨ps, e.trans h1, h2, fun pos cv hc => ?_⟩
    obtain ⟨c, e1, e2⟩ := h3 pos cv hc
    exact ⟨c, e1, g.c _ _ e2⟩
  | cod q H0 => exact ⟨g.c _ _ h.1, h.2.trans g⟩
/-- a place is written (or new) -/
theorem Rep.upd {o : HO} {ow : O} (r : Rep K H W) (g : Grow K H (L2.upd H p o)) (n : RepO K (L2.upd H p o) p ow) : Rep K (L2.upd H p o) (updw W p ow) := fun a u e => by
  by_cases h : a = p
  · subst h; rw [updw_same] at e; cases e; exact n
  · rw [updw_ne h] at e
    exact (r a u e).at g (upd_ne h)
/-- a new thing that is not looked at -/
theorem Rep.new {o : HO} (r : Rep K H W) (h : H p = none) : Rep K (L2.upd H p o) W := fun a u e => by
  have q := r a u e
  have ne : a ≠ p := fun z => q.some (by rw [z]; exact h)
  exact q.at (.new h) (upd_ne ne)
end

/-! ### slots -/
abbrev Sw := List (Option T)
def RelS (K : PySem.W.Frag) (H : Hp) (τ : Sw) (σ : St) : Prop := τ.length = σ.length ∧ ∀ (i : Nat) t, τ[i]? = some (some t) → ∃ v, σ[i]? = some (some v) ∧ RelT K H t v
section
variable {K : PySem.W.Frag} {H H' : Hp} {τ : Sw} {σ : St}
theorem RelS.grow (r : RelS K H τ σ) (g : Grow K H H') : RelS K H' τ σ := ⟨r.1, fun i t e => let ⟨v, e1, r1⟩ := r.2 i t e; ⟨v, e1, r1.grow g⟩⟩
theorem RelS.set {t : T} {v : V} (r : RelS K H τ σ) (i : Nat) (h : RelT K H t v) : RelS K H (τ.set i (some t)) (σ.set i (some v)) := by
  refine ⟨by simpa using r.1, fun j u e => ?_⟩
  by_cases hj : i = j
  · subst hj
    rw [List.getElem?_set] at e ⊢
    simp only [if_true] at e ⊢
    split at e
    · rename_i hl
      rw [if_pos (by rw [← r.1]; exact hl)]
      cases e
      exact ⟨v, rfl, h⟩
    · cases e
  · rw [List.getElem?_set_ne hj] at e ⊢
    exact r.2 j u e
theorem RelS.none (r : RelS K H τ σ) (i : Nat) : RelS K H (τ.set i none) (σ.set i none) := by
  refine ⟨by simpa using r.1, fun j u e => ?_⟩
  by_cases hj : i = j
  · subst hj
    rw [List.getElem?_set] at e
    simp only [if_true] at e
    split at e <;> cases e
  · rw [List.getElem?_set_ne hj] at e ⊢
    exact r.2 j u e
end

/-! ### readings -/
abbrev Kw := T → Hw → Prop
/-- an exception: its class, its thing, the slots, the heap -/
abbrev Xw := Addr → T → Sw → Hw → Prop
abbrev TEw := Sw → Hw → Kw → Xw → Prop
abbrev TTw := Sw → Hw → (Bool → Hw → Prop) → Xw → Prop
abbrev TAw := Sw → Hw → (List T → Hw → Prop) → Xw → Prop
structure EndsW where
  nx : Sw → Hw → Prop
  rt : Kw
  bk : Sw → Hw → Prop := fun _ _ => False
  ct : Sw → Hw → Prop := fun _ _ => False
  ex : Xw
abbrev TSw := EndsW → Sw → Hw → Prop

def Up (K : PySem.W.Frag) (H : Hp) (R : Kw) (v : V) (H' : Hp) : Prop := ∃ t W', Grow K H H' ∧ RelT K H' t v ∧ Rep K H' W' ∧ R t W'
def UpB (K : PySem.W.Frag) (H : Hp) (R : Bool → Hw → Prop) (b : Bool) (H' : Hp) : Prop := ∃ W', Grow K H H' ∧ Rep K H' W' ∧ R b W'
def UpA (K : PySem.W.Frag) (H : Hp) (R : List T → Hw → Prop) (vs : List V) (H' : Hp) : Prop := ∃ ts W', Grow K H H' ∧ RelTs K H' ts vs ∧ Rep K H' W' ∧ R ts W'
def UpS (K : PySem.W.Frag) (H : Hp) (R : Sw → Hw → Prop) (σ' : St) (H' : Hp) : Prop := ∃ τ' W', Grow K H H' ∧ RelS K H' τ' σ' ∧ Rep K H' W' ∧ R τ' W'
/-- the wish about exceptions -/
def UpX (K : PySem.W.Frag) (H : Hp) (E : Xw) (Wx : WX) : Prop := ∀ C t W' v dd τ' σ' H', Grow K H H' → H' dd = some (.xd [(("thing" : Str), v)]) → RelT K H' t v → RelS K H' τ' σ' → (Rep K H' W' ∧ W' dd = none) → E C t τ' W' → Wx (.ref C) (some dd) σ' H'
theorem UpX.grow {K : PySem.W.Frag} {H H1 : Hp} {E : Xw} {Wx : WX} (u : UpX K H E Wx) (g : Grow K H H1) : UpX K H1 E Wx := fun C t W' v dd τ' σ' H' g' => u C t W' v dd τ' σ' H' (g.trans g')
theorem Up.of {K : PySem.W.Frag} {H H1 H' : Hp} {R : Kw} {v : V} (g : Grow K H H1) (h : Up K H1 R v H') : Up K H R v H' := let ⟨t, W', g', r⟩ := h; ⟨t, W', g.trans g', r⟩

def lowE (K : PySem.W.Frag) (Wx : WX) (t : TEw) : TE := fun σ H Q => ∃ τ W R E, RelS K H τ σ ∧ Rep K H W ∧ t τ W R E ∧ (∀ v H', Up K H R v H' → Q v H') ∧ UpX K H E Wx
def lowT (K : PySem.W.Frag) (Wx : WX) (t : TTw) : TT := fun σ H Q => ∃ τ W R E, RelS K H τ σ ∧ Rep K H W ∧ t τ W R E ∧ (∀ v H', UpB K H R v H' → Q v H') ∧ UpX K H E Wx
def lowA (K : PySem.W.Frag) (Wx : WX) (t : TAw) : TA := fun σ H Q => ∃ τ W R E, RelS K H τ σ ∧ Rep K H W ∧ t τ W R E ∧ (∀ v H', UpA K H R v H' → Q v H') ∧ UpX K H E Wx
structure UpD (K : PySem.W.Frag) (H : Hp) (Dw : EndsW) (D : Ends) : Prop where
  nx : ∀ σ' H', UpS K H Dw.nx σ' H' → D.nx σ' H'
  rt : ∀ v H', Up K H Dw.rt v H' → D.rt v H'
  bk : ∀ σ' H', UpS K H Dw.bk σ' H' → D.bk σ' H'
  ct : ∀ σ' H', UpS K H Dw.ct σ' H' → D.ct σ' H'
theorem UpD.grow {K : PySem.W.Frag} {H H1 : Hp} {Dw : EndsW} {D : Ends} (u : UpD K H Dw D) (g : Grow K H H1) : UpD K H1 Dw D :=
  ⟨fun σ' H' ⟨τ, W, g', r⟩ => u.nx σ' H' ⟨τ, W, g.trans g', r⟩, fun v H' h => u.rt v H' (h.of g), fun σ' H' ⟨τ, W, g', r⟩ => u.bk σ' H' ⟨τ, W, g.trans g', r⟩, fun σ' H' ⟨τ, W, g', r⟩ => u.ct σ' H' ⟨τ, W, g.trans g', r⟩⟩
def lowS (K : PySem.W.Frag) (Wx : WX) (t : TSw) : TS := fun D σ H => ∃ τ W Dw, RelS K H τ σ ∧ Rep K H W ∧ t Dw τ W ∧ UpD K H Dw D ∧ UpX K H Dw.ex Wx

/-- the judgements -/
abbrev LE (X : Cx) (Wx : WX) (e : Expr) (t : TEw) : Prop := PE X e (lowE X.K Wx t)
abbrev LT (X : Cx) (Wx : WX) (e : Expr) (t : TTw) : Prop := PT X e (lowT X.K Wx t)
abbrev LA (X : Cx) (Wx : WX) (es : List Expr) (t : TAw) : Prop := PA X es (lowA X.K Wx t)
abbrev LS (X : Cx) (Wx : WX) (st : Stmt) (t : TSw) : Prop := PS X st (lowS X.K Wx t)
abbrev LSs (X : Cx) (Wx : WX) (st : List Stmt) (t : TSw) : Prop := PSs X st (lowS X.K Wx t)

theorem PE.imp {X : Cx} {e : Expr} {t t' : TE} (h : PE X e t) (i : ∀ σ H Q, t' σ H Q → t σ H Q) : PE X e t' := ⟨fun pins s σ H Q I q => h.run pins s σ H Q I (i σ H Q q)⟩
theorem PT.imp {X : Cx} {e : Expr} {t t' : TT} (h : PT X e t) (i : ∀ σ H Q, t' σ H Q → t σ H Q) : PT X e t' := ⟨fun pins s σ H Q I q => h.run pins s σ H Q I (i σ H Q q)⟩
theorem PW.imp {X : Cx} {e : Expr} {t t' : TT} (h : PW X e t) (i : ∀ σ H Q, t' σ H Q → t σ H Q) : PW X e t' := ⟨fun w pins s σ H Q I q => h.run w pins s σ H Q I (i σ H Q q)⟩
theorem PA.imp {X : Cx} {e : List Expr} {t t' : TA} (h : PA X e t) (i : ∀ σ H Q, t' σ H Q → t σ H Q) : PA X e t' := ⟨fun p pins s σ H Q I q => h.run p pins s σ H Q I (i σ H Q q)⟩
theorem PS.imp {X : Cx} {e : Stmt} {t t' : TS} (h : PS X e t) (i : ∀ D σ H, t' D σ H → t D σ H) : PS X e t' := ⟨fun pins s σ H D I q => h.run pins s σ H D I (i D σ H q)⟩
theorem PSs.imp {X : Cx} {e : List Stmt} {t t' : TS} (h : PSs X e t) (i : ∀ D σ H, t' D σ H → t D σ H) : PSs X e t' := ⟨fun pins s σ H D I q => h.run pins s σ H D I (i D σ H q)⟩
theorem PG.imp {X : Cx} {e : Expr} {t t' : TG} (h : PG X e t) (i : ∀ v σ H Q, t' v σ H Q → t v σ H Q) : PG X e t' := ⟨fun pins s σ H v u Q I r q => h.run pins s σ H v u Q I r (i v σ H Q q)⟩
theorem PI.imp {X : Cx} {tg e : Expr} {t t' : TI} (h : PI X tg e t) (i : ∀ σ H R, t' σ H R → t σ H R) : PI X tg e t' := ⟨fun pins s σ H R I q => h.run pins s σ H R I (i σ H R q)⟩
/-- an expression's reading goes on -/
theorem lowE.go {K : PySem.W.Frag} {Wx : WX} {t : TEw} {τ : Sw} {σ : St} {H : Hp} {W : Hw} {R : Kw} {E : Xw} {Q : VK} (rs : RelS K H τ σ) (rp : Rep K H W) (h : t τ W R E) (q : ∀ t W' v H', Grow K H H' → RelT K H' t v → Rep K H' W' → R t W' → Q v H') (ux : UpX K H E Wx) : lowE K Wx t σ H Q :=
  ⟨τ, W, R, E, rs, rp, h, fun v H' ⟨t, W', g, r, p, z⟩ => q t W' v H' g r p z, ux⟩
theorem lowT.go {K : PySem.W.Frag} {Wx : WX} {t : TTw} {τ : Sw} {σ : St} {H : Hp} {W : Hw} {R : Bool → Hw → Prop} {E : Xw} {Q : Bool → Hp → Prop} (rs : RelS K H τ σ) (rp : Rep K H W) (h : t τ W R E) (q : ∀ b W' H', Grow K H H' → Rep K H' W' → R b W' → Q b H') (ux : UpX K H E Wx) : lowT K Wx t σ H Q :=
  ⟨τ, W, R, E, rs, rp, h, fun v H' ⟨W', g, p, z⟩ => q v W' H' g p z, ux⟩
theorem lowA.go {K : PySem.W.Frag} {Wx : WX} {t : TAw} {τ : Sw} {σ : St} {H : Hp} {W : Hw} {R : List T → Hw → Prop} {E : Xw} {Q : List V → Hp → Prop} (rs : RelS K H τ σ) (rp : Rep K H W) (h : t τ W R E) (q : ∀ t W' v H', Grow K H H' → RelTs K H' t v → Rep K H' W' → R t W' → Q v H') (ux : UpX K H E Wx) : lowA K Wx t σ H Q :=
  ⟨τ, W, R, E, rs, rp, h, fun v H' ⟨t, W', g, r, p, z⟩ => q t W' v H' g r p z, ux⟩
end TL

set_option Elab.async false
set_option linter.all false
set_option maxRecDepth 100000
set_option maxHeartbeats 4000000
/-! TL: operators by values -/
namespace TL
open PySem PySem.Spec PyProof.Rows L2

/-! ### rules joined, weakened -/
theorem OpR.or {X : Cx} {f : Value → Value → Sem Value} {r r' : R2} (h : OpR X f r) (h' : OpR X f r') : OpR X f (fun x y H Q => r x y H Q ∨ r' x y H Q) :=
  fun pins s σ H x y v u Q I rx ry q => q.elim (h pins s σ H x y v u Q I rx ry) (h' pins s σ H x y v u Q I rx ry)
theorem OpR.imp {X : Cx} {f : Value → Value → Sem Value} {r r' : R2} (h : OpR X f r) (i : ∀ x y H Q, r' x y H Q → r x y H Q) : OpR X f r' :=
  fun pins s σ H x y v u Q I rx ry q => h pins s σ H x y v u Q I rx ry (i x y H Q q)
theorem UnR.imp {X : Cx} {f : Value → Sem Value} {r r' : V → Hp → VK → Prop} (h : UnR X f r) (i : ∀ x H Q, r' x H Q → r x H Q) : UnR X f r' :=
  fun pins s σ H x v Q I rx q => h pins s σ H x v Q I rx (i x H Q q)
theorem CallR.or {X : Cx} {f : Value} {r r' : List V → Hp → VK → Prop} (h : CallR X f r) (h' : CallR X f r') : CallR X f (fun xs H Q => r xs H Q ∨ r' xs H Q) :=
  fun pins s σ H xs us Q I rx q => q.elim (h pins s σ H xs us Q I rx) (h' pins s σ H xs us Q I rx)
theorem CallR.imp {X : Cx} {f : Value} {r r' : List V → Hp → VK → Prop} (h : CallR X f r) (i : ∀ xs H Q, r' xs H Q → r xs H Q) : CallR X f r' :=
  fun pins s σ H xs us Q I rx q => h pins s σ H xs us Q I rx (i xs H Q q)
theorem MtR.imp {X : Cx} {id : String} {r r' : V → List V → Hp → VK → Prop} (h : MtR X id r) (i : ∀ x xs H Q, r' x xs H Q → r x xs H Q) : MtR X id r' :=
  fun pins s σ H x xs v us Q I rx rxs q => h pins s σ H x xs v us Q I rx rxs (i x xs H Q q)
theorem IxR.imp {X : Cx} {r r' : R2} (h : IxR X r) (i : ∀ x y H Q, r' x y H Q → r x y H Q) : IxR X r' :=
  fun value slice pins s σ H x y v u Q I rx ry q e => h value slice pins s σ H x y v u Q I rx ry (i x y H Q q) e
theorem SlR.imp {X : Cx} {r r' : V → Option Int → Option Int → Hp → VK → Prop} (h : SlR X r) (i : ∀ x lo hi H Q, r' x lo hi H Q → r x lo hi H Q) : SlR X r' :=
  fun pins s σ H x v vl vu lo hi sl Q I rx hs pl pu q => h pins s σ H x v vl vu lo hi sl Q I rx hs pl pu (i x lo hi H Q q)
theorem TruR.imp {X : Cx} {r r' : V → Hp → (Bool → Hp → Prop) → Prop} (h : TruR X r) (i : ∀ x H Q, r' x H Q → r x H Q) : TruR X r' :=
  fun pins s σ H x v Q I rx q => h pins s σ H x v Q I rx (i x H Q q)

/-! ### by trees -/
abbrev R2w := T → T → Hw → Kw → Prop
def low2 (K : PySem.W.Frag) (r : R2w) : R2 := fun x y H Q => ∃ a b W R, RelT K H a x ∧ RelT K H b y ∧ Rep K H W ∧ r a b W R ∧ ∀ v H', Up K H R v H' → Q v H'
def low1 (K : PySem.W.Frag) (r : T → Hw → Kw → Prop) : V → Hp → VK → Prop := fun x H Q => ∃ a W R, RelT K H a x ∧ Rep K H W ∧ r a W R ∧ ∀ v H', Up K H R v H' → Q v H'
def lowC (K : PySem.W.Frag) (r : List T → Hw → Kw → Prop) : List V → Hp → VK → Prop := fun xs H Q => ∃ as W R, RelTs K H as xs ∧ Rep K H W ∧ r as W R ∧ ∀ v H', Up K H R v H' → Q v H'
def lowM (K : PySem.W.Frag) (r : T → List T → Hw → Kw → Prop) : V → List V → Hp → VK → Prop := fun x xs H Q => ∃ a as W R, RelT K H a x ∧ RelTs K H as xs ∧ Rep K H W ∧ r a as W R ∧ ∀ v H', Up K H R v H' → Q v H'
abbrev OpT (X : Cx) (f : Value → Value → Sem Value) (r : R2w) : Prop := OpR X f (low2 X.K r)
abbrev CallT (X : Cx) (f : Value) (r : List T → Hw → Kw → Prop) : Prop := CallR X f (lowC X.K r)
abbrev MtT (X : Cx) (id : String) (r : T → List T → Hw → Kw → Prop) : Prop := MtR X id (lowM X.K r)

/-- the end of an operator: the same heap -/
theorem up_same {K : PySem.W.Frag} {H : Hp} {W : Hw} {R : Kw} {t : T} {v : V} (rp : Rep K H W) (r : RelT K H t v) (q : R t W) : Up K H R v H := ⟨t, W, .refl K H, r, rp, q⟩
theorem up_new {K : PySem.W.Frag} {H : Hp} {W : Hw} {R : Kw} {p : Addr} {o : HO} {ow : O} (rp : Rep K H W) (h : H p = none) (n : RepO K (upd H p o) p ow) (q : W p = none → R (.ref p) (updw W p ow)) : Up K H R (.ref p) (upd H p o) :=
  ⟨.ref p, updw W p ow, .new h, by simp only [RelT], rp.upd (.new h) n, q (rp.free h)⟩
theorem up_lst {K : PySem.W.Frag} {H : Hp} {W : Hw} {R : Kw} {p : Addr} {ts : List T} {vs : List V} (rp : Rep K H W) (h : H p = none) (r : RelTs K H ts vs) (q : ∀ p, W p = none → R (.ref p) (updw W p (.lst ts))) : Up K H R (.ref p) (upd H p (.lst vs)) :=
  up_new (ow := .lst ts) rp h ⟨vs, upd_same, r.grow (.new h)⟩ (q p)
theorem up_tup {K : PySem.W.Frag} {H : Hp} {W : Hw} {R : Kw} {p : Addr} {ts : List T} {vs : List V} (rp : Rep K H W) (h : H p = none) (r : RelTs K H ts vs) (q : R (.tup ts) W) : Up K H R (.ref p) (upd H p (.tup vs)) :=
  ⟨.tup ts, W, .new h, by simp only [RelT]; exact ⟨p, vs, rfl, upd_same, r.grow (.new h)⟩, rp.new h, q⟩
theorem rel_int {K : PySem.W.Frag} {H : Hp} {i : Int} : RelT K H (.int i) (.int i) := by simp only [RelT]
theorem rel_bl {K : PySem.W.Frag} {H : Hp} {i : Bool} : RelT K H (.bl i) (.bl i) := by simp only [RelT]
theorem rel_str {K : PySem.W.Frag} {H : Hp} {i : Str} : RelT K H (.str i) (.str i) := by simp only [RelT]
theorem rel_non {K : PySem.W.Frag} {H : Hp} : RelT K H .non .non := by simp only [RelT]
theorem rel_ref {K : PySem.W.Frag} {H : Hp} {a : Addr} : RelT K H (.ref a) (.ref a) := by simp only [RelT]
theorem Rep.lst {K : PySem.W.Frag} {H : Hp} {W : Hw} {a : Addr} {ts : List T} (rp : Rep K H W) (h : W a = some (.lst ts)) : ∃ vs, H a = some (.lst vs) ∧ RelTs K H ts vs := rp a _ h

section
variable {X : Cx}
def rAddT : R2w := fun a b W Q => match a, b with
  | .int i, .int j => Q (.int (i + j)) W
  | .str x, .str y => x.length + y.length ≤ sizeLine ∧ Q (.str (x ++ y)) W
  | .tup xs, .tup ys => xs.length + ys.length ≤ sizeLine ∧ Q (.tup (xs ++ ys)) W
  | .ref p, .ref q => match W p, W q with
    | some (.lst xs), some (.lst ys) => xs.length + ys.length ≤ sizeLine ∧ ∀ r, W r = none → Q (.ref r) (updw W r (.lst (xs ++ ys)))
    | _, _ => False
  | _, _ => False
theorem ot_add : OpT X (binaryOp .Add) rAddT := by
  refine OpR.imp (OpR.or (OpR.or op_add op_add_str) (OpR.or op_catA op_cat)) ?_
  rintro x y H Q ⟨a, b, W, R, ra, rb, rp, h, up⟩
  unfold rAddT at h
  split at h
  · simp only [RelT] at ra rb; subst ra; subst rb
    exact .inl (.inl ⟨_, _, rfl, rfl, up _ _ (up_same rp rel_int h)⟩)
  · simp only [RelT] at ra rb; subst ra; subst rb
    exact .inl (.inr ⟨_, _, rfl, rfl, h.1, up _ _ (up_same rp rel_str h.2)⟩)
  · rename_i xs ys
    simp only [RelT] at ra rb
    obtain ⟨p, vs, rfl, sp, r1⟩ := ra
    obtain ⟨q, us, rfl, sq, r2⟩ := rb
    refine .inr (.inl ⟨p, q, vs, us, rfl, rfl, SqT.of sp, SqT.of sq, by rw [r1.len, r2.len]; exact h.1, fun e => ?_, fun _ e => ?_, fun _ _ p' np => ?_⟩)
    · subst e
      have e' : xs = [] := by cases xs with
        | nil => rfl
        | cons t r => obtain ⟨_, _, z, _⟩ := r1.inv_cons; cases z
      subst e'
      exact up _ _ (up_same rp (t := .tup ys) (by simp only [RelT]; exact ⟨q, us, rfl, sq, r2⟩) (by simpa using h.2))
    · subst e
      have e' : ys = [] := by cases ys with
        | nil => rfl
        | cons t r => obtain ⟨_, _, z, _⟩ := r2.inv_cons; cases z
      subst e'
      exact up _ _ (up_same rp (t := .tup xs) (by simp only [RelT]; exact ⟨p, vs, rfl, sp, r1⟩) (by simpa using h.2))
    · exact up _ _ (up_tup rp np (r1.append r2) h.2)
  · simp only [RelT] at ra rb; subst ra; subst rb
    split at h
    · rename_i e1 e2
      obtain ⟨vs, g1, r1⟩ := rp.lst e1
      obtain ⟨us, g2, r2⟩ := rp.lst e2
      exact .inr (.inr ⟨_, _, vs, us, rfl, rfl, g1, g2, by rw [r1.len, r2.len]; exact h.1, fun p' np => up _ _ (up_lst rp np (r1.append r2) h.2)⟩)
    · exact h.elim
  · exact h.elim
def rSubT : R2w := fun a b W Q => match a, b with
  | .int i, .int j => Q (.int (i - j)) W
  | _, _ => False
theorem ot_sub : OpT X (binaryOp .Sub) rSubT := by
  refine OpR.imp op_sub ?_
  rintro x y H Q ⟨a, b, W, R, ra, rb, rp, h, up⟩
  unfold rSubT at h
  split at h
  · simp only [RelT] at ra rb; subst ra; subst rb
    exact ⟨_, _, rfl, rfl, up _ _ (up_same rp rel_int h)⟩
  · exact h.elim
def rMulT : R2w := fun a b W Q => match a, b with
  | .int i, .int j => CMul i j ∧ Q (.int (i * j)) W
  | .ref p, .int k => match W p with
    | some (.lst xs) => -(2 ^ 63) ≤ k ∧ k < 2 ^ 63 ∧ xs.length * k.toNat ≤ sizeLine ∧ ∀ r, W r = none → Q (.ref r) (updw W r (.lst (List.replicate k.toNat xs).flatten))
    | _ => False
  | _, _ => False
theorem ot_mul : OpT X (binaryOp .Mult) rMulT := by
  refine OpR.imp (OpR.or op_mul op_rep) ?_
  rintro x y H Q ⟨a, b, W, R, ra, rb, rp, h, up⟩
  unfold rMulT at h
  split at h
  · simp only [RelT] at ra rb; subst ra; subst rb
    exact .inl ⟨_, _, rfl, rfl, h.1, up _ _ (up_same rp rel_int h.2)⟩
  · simp only [RelT] at ra rb; subst ra; subst rb
    split at h
    · rename_i e1
      obtain ⟨vs, g1, r1⟩ := rp.lst e1
      exact .inr ⟨_, _, vs, rfl, rfl, g1, h.1, h.2.1, by rw [r1.len]; exact h.2.2.1, fun p' np => up _ _ (up_lst rp np (r1.flat _) h.2.2.2)⟩
    · exact h.elim
  · exact h.elim
def rModT : R2w := fun a b W Q => match a, b with
  | .int i, .int j => 0 < j ∧ Q (.int (i % j)) W
  | _, _ => False
theorem ot_mod : OpT X (binaryOp .Mod) rModT := by
  refine OpR.imp op_mod ?_
  rintro x y H Q ⟨a, b, W, R, ra, rb, rp, h, up⟩
  unfold rModT at h
  split at h
  · simp only [RelT] at ra rb; subst ra; subst rb
    exact ⟨_, _, rfl, rfl, h.1, up _ _ (up_same rp rel_int h.2)⟩
  · exact h.elim
def rFdivT : R2w := fun a b W Q => match a, b with
  | .int i, .int j => (0 < j ∧ j < 1073741824) ∧ Q (.int (i / j)) W
  | _, _ => False
theorem ot_fdiv : OpT X (binaryOp .FloorDiv) rFdivT := by
  refine OpR.imp op_fdiv ?_
  rintro x y H Q ⟨a, b, W, R, ra, rb, rp, h, up⟩
  unfold rFdivT at h
  split at h
  · simp only [RelT] at ra rb; subst ra; subst rb
    exact ⟨_, _, rfl, rfl, h.1, up _ _ (up_same rp rel_int h.2)⟩
  · exact h.elim
def rPowT : R2w := fun a b W Q => match a, b with
  | .int i, .int j => CPow i j ∧ Q (.int (i ^ j.toNat)) W
  | _, _ => False
theorem ot_pow : OpT X (binaryOp .Pow) rPowT := by
  refine OpR.imp op_pow ?_
  rintro x y H Q ⟨a, b, W, R, ra, rb, rp, h, up⟩
  unfold rPowT at h
  split at h
  · simp only [RelT] at ra rb; subst ra; subst rb
    exact ⟨_, _, rfl, rfl, h.1, up _ _ (up_same rp rel_int h.2)⟩
  · exact h.elim

/-! ### comparisons -/
mutual
/-- data without own objects, lists read off the heap -/
inductive DataT (W : Hw) : T → PyData → Prop where
  | non : DataT W .non .none
  | bl (b : Bool) : DataT W (.bl b) (.bool b)
  | int (i : Int) : DataT W (.int i) (.int i)
  | str (x : Str) : DataT W (.str x) (.str x)
  | tup {ts : List T} {ds : List PyData} : DataTs W ts ds → DataT W (.tup ts) (.tuple ds)
  | rol {ts : List T} {ds : List PyData} : DataTs W ts ds → DataT W (.rol ts) (.list ds)
  | lst {a : Addr} {ts : List T} {ds : List PyData} : W a = some (.lst ts) → DataTs W ts ds → DataT W (.ref a) (.list ds)
inductive DataTs (W : Hw) : List T → List PyData → Prop where
  | nil : DataTs W [] []
  | cons {t : T} {ts : List T} {d : PyData} {ds : List PyData} : DataT W t d → DataTs W ts ds → DataTs W (t :: ts) (d :: ds)
end
mutual
theorem DataT.dp {K : PySem.W.Frag} {H : Hp} {W : Hw} (rp : Rep K H W) : ∀ {t : T} {d : PyData} {v : V}, DataT W t d → RelT K H t v → Dp K H v d
  | _, _, v, .non, r => by simp only [RelT] at r; subst r; exact .non
  | _, _, v, .bl b, r => by simp only [RelT] at r; subst r; exact .bl b
  | _, _, v, .int i, r => by simp only [RelT] at r; subst r; exact .int i
  | _, _, v, .str x, r => by simp only [RelT] at r; subst r; exact .str x
  | _, _, v, .tup h, r => by
    simp only [RelT] at r
    obtain ⟨a, vs, rfl, s, r⟩ := r
    exact .tup (SqT.of s) (DataTs.dp rp h r)
  | _, _, v, .rol h, r => by
    simp only [RelT] at r
    obtain ⟨a, vs, rfl, s, r⟩ := r
    exact .lst s.sq (DataTs.dp rp h r)
  | _, _, v, .lst e h, r => by
    simp only [RelT] at r
    subst r
    obtain ⟨vs, g, r⟩ := rp.lst e
    exact .lst (SqL.of g) (DataTs.dp rp h r)
theorem DataTs.dp {K : PySem.W.Frag} {H : Hp} {W : Hw} (rp : Rep K H W) : ∀ {ts : List T} {ds : List PyData} {vs : List V}, DataTs W ts ds → RelTs K H ts vs → DpAll K H vs ds
  | _, _, vs, .nil, r => by rw [r.inv_nil]; exact .nil
  | _, _, vs, .cons h hs, r => by
    obtain ⟨v, q, rfl, r1, r2⟩ := r.inv_cons
    exact .cons (DataT.dp rp h r1) (DataTs.dp rp hs r2)
end
def rEqT (neg : Bool) : R2w := fun a b W Q => match a, b with
  | .int i, .int j => Q (.bl (neg != decide (i = j))) W
  | .str x, .str y => Q (.bl (neg != decide (x = y))) W
  | .bl x, .bl y => Q (.bl (neg != decide (x = y))) W
  | .non, .non => Q (.bl (neg != true)) W
  | a, b => ∃ d e, DataT W a d ∧ DataT W b e ∧ SeqAt.shaped d = true ∧ SeqAt.shaped e = true ∧ Q (.bl (neg != PyData.eqv d e)) W
theorem ot_eq (hu : X.A.units + 64 < cLine) : OpT X (compareOp .Eq) (rEqT false) := by
  refine OpR.imp (OpR.or op_eq (op_eqD hu)) ?_
  rintro x y H Q ⟨a, b, W, R, ra, rb, rp, h, up⟩
  unfold rEqT at h
  split at h
  · simp only [RelT] at ra rb; subst ra; subst rb
    refine .inl ⟨rfl, up _ _ (up_same rp rel_bl ?_)⟩
    simpa using h
  · simp only [RelT] at ra rb; subst ra; subst rb
    refine .inl ⟨rfl, up _ _ (up_same rp rel_bl ?_)⟩
    simpa using h
  · simp only [RelT] at ra rb; subst ra; subst rb
    refine .inl ⟨rfl, up _ _ (up_same rp rel_bl ?_)⟩
    simpa using h
  · simp only [RelT] at ra rb; subst ra; subst rb
    refine .inl ⟨rfl, up _ _ (up_same rp rel_bl ?_)⟩
    simpa using h
  · obtain ⟨d, e, h1, h2, s1, s2, q⟩ := h
    refine .inr ⟨d, e, h1.dp rp ra, h2.dp rp rb, s1, s2, up _ _ (up_same rp rel_bl ?_)⟩
    simpa using q
theorem ot_ne (hu : X.A.units + 64 < cLine) : OpT X (compareOp .NotEq) (rEqT true) := by
  refine OpR.imp (OpR.or op_ne (op_neD hu)) ?_
  rintro x y H Q ⟨a, b, W, R, ra, rb, rp, h, up⟩
  unfold rEqT at h
  split at h
  · simp only [RelT] at ra rb; subst ra; subst rb
    refine .inl ⟨rfl, up _ _ (up_same rp rel_bl ?_)⟩
    simpa using h
  · simp only [RelT] at ra rb; subst ra; subst rb
    refine .inl ⟨rfl, up _ _ (up_same rp rel_bl ?_)⟩
    simpa using h
  · simp only [RelT] at ra rb; subst ra; subst rb
    refine .inl ⟨rfl, up _ _ (up_same rp rel_bl ?_)⟩
    simpa using h
  · simp only [RelT] at ra rb; subst ra; subst rb
    refine .inl ⟨rfl, up _ _ (up_same rp rel_bl ?_)⟩
    simpa using h
  · obtain ⟨d, e, h1, h2, s1, s2, q⟩ := h
    refine .inr ⟨d, e, h1.dp rp ra, h2.dp rp rb, s1, s2, up _ _ (up_same rp rel_bl ?_)⟩
    simpa using q
def rLtT : R2w := fun a b W Q => match a, b with
  | .int i, .int j => Q (.bl (decide (i < j))) W
  | .str x, .str y => Q (.bl (decide (x.cps.toList < y.cps.toList))) W
  | _, _ => False
theorem ot_lt : OpT X (compareOp .Lt) rLtT := by
  refine OpR.imp (OpR.or op_lt op_lt_str) ?_
  rintro x y H Q ⟨a, b, W, R, ra, rb, rp, h, up⟩
  unfold rLtT at h
  split at h
  · simp only [RelT] at ra rb; subst ra; subst rb
    exact .inl ⟨_, _, rfl, rfl, up _ _ (up_same rp rel_bl h)⟩
  · simp only [RelT] at ra rb; subst ra; subst rb
    exact .inr ⟨_, _, rfl, rfl, up _ _ (up_same rp rel_bl h)⟩
  · exact h.elim
def rGtT : R2w := fun a b W Q => rLtT b a W Q
theorem ot_gt : OpT X (compareOp .Gt) rGtT := by
  refine OpR.imp (OpR.or op_gt op_gt_str) ?_
  rintro x y H Q ⟨a, b, W, R, ra, rb, rp, h, up⟩
  unfold rGtT rLtT at h
  split at h
  · simp only [RelT] at ra rb; subst ra; subst rb
    exact .inl ⟨_, _, rfl, rfl, up _ _ (up_same rp rel_bl h)⟩
  · simp only [RelT] at ra rb; subst ra; subst rb
    exact .inr ⟨_, _, rfl, rfl, up _ _ (up_same rp rel_bl h)⟩
  · exact h.elim
def rLeT : R2w := fun a b W Q => match a, b with
  | .int i, .int j => Q (.bl (decide (i ≤ j))) W
  | .str x, .str y => Q (.bl (!decide (y.cps.toList < x.cps.toList))) W
  | _, _ => False
theorem ot_le : OpT X (compareOp .LtE) rLeT := by
  refine OpR.imp (OpR.or op_le op_le_str) ?_
  rintro x y H Q ⟨a, b, W, R, ra, rb, rp, h, up⟩
  unfold rLeT at h
  split at h
  · simp only [RelT] at ra rb; subst ra; subst rb
    exact .inl ⟨_, _, rfl, rfl, up _ _ (up_same rp rel_bl h)⟩
  · simp only [RelT] at ra rb; subst ra; subst rb
    exact .inr ⟨_, _, rfl, rfl, up _ _ (up_same rp rel_bl h)⟩
  · exact h.elim
def rGeT : R2w := fun a b W Q => rLeT b a W Q
theorem ot_ge : OpT X (compareOp .GtE) rGeT := by
  refine OpR.imp (OpR.or op_ge op_ge_str) ?_
  rintro x y H Q ⟨a, b, W, R, ra, rb, rp, h, up⟩
  unfold rGeT rLeT at h
  split at h
  · simp only [RelT] at ra rb; subst ra; subst rb
    exact .inl ⟨_, _, rfl, rfl, up _ _ (up_same rp rel_bl h)⟩
  · simp only [RelT] at ra rb; subst ra; subst rb
    exact .inr ⟨_, _, rfl, rfl, up _ _ (up_same rp rel_bl h)⟩
  · exact h.elim
def isNon : T → Bool
  | .non => true
  | _ => false
theorem isNon_v {K : PySem.W.Frag} {H : Hp} {t : T} {v : V} (r : RelT K H t v) : decide (v = .non) = isNon t := by
  cases t <;> simp only [RelT] at r
  case non => subst r; rfl
  case bl => subst r; rfl
  case int => subst r; rfl
  case str => subst r; rfl
  case ref => subst r; rfl
  case ty => subst r; rfl
  case tup => obtain ⟨a, vs, rfl, _⟩ := r; rfl
  case rol => obtain ⟨a, vs, rfl, _⟩ := r; rfl
def rIsT (neg : Bool) : R2w := fun a b W Q => match b with
  | .non => Q (.bl (neg != isNon a)) W
  | _ => False
theorem ot_is : OpT X (compareOp .Is) (rIsT false) := by
  refine OpR.imp op_isN ?_
  rintro x y H Q ⟨a, b, W, R, ra, rb, rp, h, up⟩
  unfold rIsT at h
  split at h
  · simp only [RelT] at rb; subst rb
    refine ⟨rfl, up _ _ (up_same rp rel_bl ?_)⟩
    rw [isNon_v ra]; simpa using h
  · exact h.elim
theorem ot_isnot : OpT X (compareOp .IsNot) (rIsT true) := by
  refine OpR.imp op_notN ?_
  rintro x y H Q ⟨a, b, W, R, ra, rb, rp, h, up⟩
  unfold rIsT at h
  split at h
  · simp only [RelT] at rb; subst rb
    refine ⟨rfl, up _ _ (up_same rp rel_bl ?_)⟩
    rw [isNon_v ra]; simpa using h
  · exact h.elim
end
end TL

set_option Elab.async false
set_option linter.all false
set_option maxRecDepth 100000
set_option maxHeartbeats 4000000
/-! TL: expressions -/
namespace TL
open PySem PySem.Spec PyProof.Rows L2
section
variable {X : Cx} {Wx : WX} {pos : Pos}

/-! ### names and constants -/
def wVar (i : Nat) : TEw := fun τ W Q _ => match τ[i]? with
  | some (some t) => Q t W
  | _ => False
theorem w_var (i : Nat) {x : Str} (hN : X.N[i]? = some x := by rfl) (hv : Vis X.env.scope x := by first | exact Or.inl rfl | exact Or.inr (Or.inl rfl) | exact Or.inr (Or.inr rfl)) (hd : (x == ("__debug__" : Str)) = false := by decide)
    (hcd : (x == ("__classdict__" : Str)) = false := by decide) : LE X Wx (.Name x pos) (wVar i) := by
  refine PE.imp (pe_var hN hv hd hcd) ?_
  rintro σ H Q ⟨τ, W, R, E, rs, rp, h, up, ux⟩
  unfold wVar at h
  split at h
  · rename_i t e
    obtain ⟨v, e1, r⟩ := rs.2 i t e
    exact ⟨v, e1, up _ _ (up_same rp r h)⟩
  · exact h.elim
def wK (t : T) : TEw := fun _ W Q _ => Q t W
theorem w_int {i j} : LE X Wx (.Constant (.int i) j pos) (wK (.int i)) := PE.imp pe_int fun σ H Q ⟨τ, W, R, E, rs, rp, h, up, ux⟩ => up _ _ (up_same rp rel_int h)
theorem w_bl {b j} : LE X Wx (.Constant (.bool b) j pos) (wK (.bl b)) := PE.imp pe_bl fun σ H Q ⟨τ, W, R, E, rs, rp, h, up, ux⟩ => up _ _ (up_same rp rel_bl h)
theorem w_non {j} : LE X Wx (.Constant .none j pos) (wK .non) := PE.imp pe_non fun σ H Q ⟨τ, W, R, E, rs, rp, h, up, ux⟩ => up _ _ (up_same rp rel_non h)
theorem w_str {x j} : LE X Wx (.Constant (.str x) j pos) (wK (.str x)) := PE.imp pe_str fun σ H Q ⟨τ, W, R, E, rs, rp, h, up, ux⟩ => up _ _ (up_same rp rel_str h)
/-- a module's constant -/
theorem w_glob {x : Str} {v : V} {u : Value} {t : T} (hg : Gl X x) (hm : X.mg x = some u) (r : RelV v u) (rt : ∀ H, RelT X.K H t v) (hd : (x == ("__debug__" : Str)) = false := by decide) : LE X Wx (.Name x pos) (wK t) :=
  PE.imp (pe_glob hg hm r hd) fun σ H Q ⟨τ, W, R, E, rs, rp, h, up, ux⟩ => up _ _ (up_same rp (rt H) h)
theorem w_gint {x : Str} {i : Int} {tk : Tok} (hm : X.mg x = some (.int i tk)) (hg : Gl X x := by rfl) (hd : (x == ("__debug__" : Str)) = false := by decide) : LE X Wx (.Name x pos) (wK (.int i)) :=
  w_glob (v := .int i) hg hm ⟨_, rfl⟩ (fun H => rel_int) hd
theorem w_gstr {x : Str} {i : Str} {tk : Tok} (hm : X.mg x = some (.str i tk)) (hg : Gl X x := by rfl) (hd : (x == ("__debug__" : Str)) = false := by decide) : LE X Wx (.Name x pos) (wK (.str i)) :=
  w_glob (v := .str i) hg hm ⟨_, rfl⟩ (fun H => rel_str) hd
/-- a built-in class as a value -/
theorem w_ty {x : Str} {n : String} (hm : X.mg x = none) (hv : bootBuiltins x = some (.type n)) (hg : Gl X x := by rfl) (hn : x ≠ "__name__" := by decide) (hd : (x == ("__debug__" : Str)) = false := by decide) : LE X Wx (.Name x pos) (wK (.ty n)) :=
  PE.imp (pe_bltn (v := .ty n) hg hm hv rfl hn hd) fun σ H Q ⟨τ, W, R, E, rs, rp, h, up, ux⟩ => up _ _ (up_same rp (by simp only [RelT]) h)
/-- an own class as a value -/
theorem w_gcls {x : Str} {a : Addr} (hm : X.mg x = some (.ref a)) (hg : Gl X x := by rfl) (hd : (x == ("__debug__" : Str)) = false := by decide) : LE X Wx (.Name x pos) (wK (.ref a)) :=
  w_glob (v := .ref a) hg hm rfl (fun H => rel_ref) hd

/-! ### operators -/
variable {a b c : Expr} {ta tb tc : TEw}
def wOp (r : R2w) (ta tb : TEw) : TEw := fun τ W Q E => ta τ W (fun x W1 => tb τ W1 (fun y W2 => r x y W2 Q) E) E
theorem wOp_low {r : R2w} {σ : L2.St} {H : Hp} {Q : VK} (h : lowE X.K Wx (wOp r ta tb) σ H Q) : tOp (low2 X.K r) (lowE X.K Wx ta) (lowE X.K Wx tb) σ H Q := by
  obtain ⟨τ, W, R, E, rs, rp, h, up, ux⟩ := h
  refine lowE.go rs rp h (fun x W1 v H1 g r1 p1 h1 => ?_) ux
  refine lowE.go (rs.grow g) p1 h1 (fun y W2 u H2 g2 r2 p2 h2 => ?_) (ux.grow g)
  exact ⟨x, y, W2, R, r1.grow g2, r2, p2, h2, fun v' H' q => up v' H' (q.of (g.trans g2))⟩
theorem w_op {op : Operator} {r : R2w} (ho : OpT X (binaryOp op) r) (ha : LE X Wx a ta) (hb : LE X Wx b tb) : LE X Wx (.BinOp a op b pos) (wOp r ta tb) := PE.imp (pe_op ho ha hb) fun σ H Q h => wOp_low h
theorem w_cmp {op : CmpOp} {r : R2w} (ho : OpT X (compareOp op) r) (ha : LE X Wx a ta) (hb : LE X Wx b tb) (hm : behindInMarks op b = false := by first | exact nomark _ | rfl) : LE X Wx (.Compare a [op] [b] pos) (wOp r ta tb) :=
  PE.imp (pe_cmpR ho ha hb hm) fun σ H Q h => wOp_low h
/-- a value that is a truth -/
def wTest (te : TEw) : TTw := fun τ W Q E => te τ W (fun t W' => match t with
  | .bl k => Q k W'
  | _ => False) E
theorem wTest_low {te : TEw} {σ : L2.St} {H : Hp} {Q : Bool → Hp → Prop} (h : lowT X.K Wx (wTest te) σ H Q) : lowE X.K Wx te σ H fun v H' => ∃ k, v = .bl k ∧ Q k H' := by
  obtain ⟨τ, W, R, E, rs, rp, h, up, ux⟩ := h
  refine lowE.go rs rp h (fun x W1 v H1 g r1 p1 h1 => ?_) ux
  split at h1
  · simp only [RelT] at r1
    exact ⟨_, r1, up _ _ ⟨W1, g, p1, h1⟩⟩
  · exact h1.elim
theorem lt_val {e : Expr} {te : TEw} (h : LE X Wx e te) (he : ∀ whole, isTrue e X.env whole = (do let v ← whole; standAt e.pos; holding [v] (truthy v)) := by intro _; rfl) : LT X Wx e (wTest te) := PT.imp (pt_val h he) fun σ H Q h => wTest_low h
theorem lt_cmp {op : CmpOp} {r : R2w} (ho : OpT X (compareOp op) r) (ha : LE X Wx a ta) (hb : LE X Wx b tb) (hm : behindInMarks op b = false := by first | exact nomark _ | rfl) : LT X Wx (.Compare a [op] [b] pos) (wTest (wOp r ta tb)) := by
  refine PT.imp (pt_cmpR ho ha hb hm) fun σ H Q h => ?_
  exact wOp_low (wTest_low h)
def wChain (r r' : R2w) (ta tb tc : TEw) : TEw := fun τ W Q E => ta τ W (fun x W1 => tb τ W1 (fun y W2 => r x y W2 fun z W3 => match z with
  | .bl k => if k = true then tc τ W3 (fun u W4 => r' y u W4 Q) E else Q (.bl false) W3
  | _ => False) E) E
theorem wChain_low {r r' : R2w} {σ : L2.St} {H : Hp} {Q : VK} (h : lowE X.K Wx (wChain r r' ta tb tc) σ H Q) : tChain (low2 X.K r) (low2 X.K r') (lowE X.K Wx ta) (lowE X.K Wx tb) (lowE X.K Wx tc) σ H Q := by
  obtain ⟨τ, W, R, E, rs, rp, h, up, ux⟩ := h
  refine lowE.go rs rp h (fun x W1 v H1 g r1 p1 h1 => ?_) ux
  refine lowE.go (rs.grow g) p1 h1 (fun y W2 u H2 g2 r2 p2 h2 => ?_) (ux.grow g)
  refine ⟨x, y, W2, _, r1.grow g2, r2, p2, h2, fun v' H' ⟨t, W3, g3, r3, p3, h3⟩ => ?_⟩
  dsimp only at h3
  split at h3
  · rename_i k
    simp only [RelT] at r3
    subst r3
    refine ⟨k, rfl, ?_⟩
    cases k with
    | true =>
      rw [if_pos rfl] at h3 ⊢
      refine lowE.go (rs.grow ((g.trans g2).trans g3)) p3 h3 (fun z W4 w H4 g4 r4 p4 h4 => ?_) (ux.grow ((g.trans g2).trans g3))
      exact ⟨y, z, W4, R, r2.grow (g3.trans g4), r4, p4, h4, fun v' H' q => up v' H' (q.of (((g.trans g2).trans g3).trans g4))⟩
    | false =>
      rw [if_neg Bool.false_ne_true] at h3 ⊢
      exact up _ _ ⟨_, W3, (g.trans g2).trans g3, rel_bl, p3, h3⟩
  · exact h3.elim
theorem w_chain {op op' : CmpOp} {r r' : R2w} (ho : OpT X (compareOp op) r) (ho' : OpT X (compareOp op') r') (ha : LE X Wx a ta) (hb : LE X Wx b tb) (hc : LE X Wx c tc) (hm : lastMarks [op, op'] [b, c] = false := by with_unfolding_all rfl) :
    LE X Wx (.Compare a [op, op'] [b, c] pos) (wChain r r' ta tb tc) := PE.imp (pe_chain ho ho' ha hb hc hm) fun σ H Q h => wChain_low h
theorem lt_chain {op op' : CmpOp} {r r' : R2w} (ho : OpT X (compareOp op) r) (ho' : OpT X (compareOp op') r') (ha : LE X Wx a ta) (hb : LE X Wx b tb) (hc : LE X Wx c tc) (hm : lastMarks [op, op'] [b, c] = false := by with_unfolding_all rfl) :
    LT X Wx (.Compare a [op, op'] [b, c] pos) (wTest (wChain r r' ta tb tc)) := PT.imp (pt_chain ho ho' ha hb hc hm) fun σ H Q h => wChain_low (wTest_low h)
/-- and, or, not of truths -/
def wAnd (ta tb : TEw) : TEw := fun τ W Q E => ta τ W (fun x W1 => match x with
  | .bl k => if k = true then tb τ W1 Q E else Q (.bl false) W1
  | _ => False) E
def wOr (ta tb : TEw) : TEw := fun τ W Q E => ta τ W (fun x W1 => match x with
  | .bl k => if k = true then Q (.bl true) W1 else tb τ W1 Q E
  | _ => False) E
def wNot (ta : TEw) : TEw := fun τ W Q E => ta τ W (fun x W1 => match x with
  | .bl k => Q (.bl (!k)) W1
  | _ => False) E
theorem w_one {op} (h : LE X Wx a ta) : LE X Wx (.BoolOp op [a] pos) ta := pe_one h
theorem w_and {rest : List Expr} (ha : LE X Wx a ta) (hb : LE X Wx (.BoolOp .And (b :: rest) pos) tb) : LE X Wx (.BoolOp .And (a :: b :: rest) pos) (wAnd ta tb) := by
  refine PE.imp (pe_and ha hb) ?_
  rintro σ H Q ⟨τ, W, R, E, rs, rp, h, up, ux⟩
  refine lowE.go rs rp h (fun x W1 v H1 g r1 p1 h1 => ?_) ux
  split at h1
  · rename_i k
    simp only [RelT] at r1
    refine ⟨k, r1, ?_⟩
    cases k with
    | true =>
      rw [if_pos rfl] at h1 ⊢
      exact lowE.go (rs.grow g) p1 h1 (fun z W4 w H4 g4 r4 p4 h4 => up _ _ ⟨z, W4, g.trans g4, r4, p4, h4⟩) (ux.grow g)
    | false =>
      rw [if_neg Bool.false_ne_true] at h1 ⊢
      exact up _ _ ⟨_, W1, g, rel_bl, p1, h1⟩
  · exact h1.elim
theorem w_or {rest : List Expr} (ha : LE X Wx a ta) (hb : LE X Wx (.BoolOp .Or (b :: rest) pos) tb) : LE X Wx (.BoolOp .Or (a :: b :: rest) pos) (wOr ta tb) := by
  refine PE.imp (pe_or ha hb) ?_
  rintro σ H Q ⟨τ, W, R, E, rs, rp, h, up, ux⟩
  refine lowE.go rs rp h (fun x W1 v H1 g r1 p1 h1 => ?_) ux
  split at h1
  · rename_i k
    simp only [RelT] at r1
    refine ⟨k, r1, ?_⟩
    cases k with
    | false =>
      rw [if_neg Bool.false_ne_true] at h1 ⊢
      exact lowE.go (rs.grow g) p1 h1 (fun z W4 w H4 g4 r4 p4 h4 => up _ _ ⟨z, W4, g.trans g4, r4, p4, h4⟩) (ux.grow g)
    | true =>
      rw [if_pos rfl] at h1 ⊢
      exact up _ _ ⟨_, W1, g, rel_bl, p1, h1⟩
  · exact h1.elim
theorem w_not (ha : LE X Wx a ta) : LE X Wx (.UnaryOp .Not a pos) (wNot ta) := by
  refine PE.imp (pe_not ha) ?_
  rintro σ H Q ⟨τ, W, R, E, rs, rp, h, up, ux⟩
  refine lowE.go rs rp h (fun x W1 v H1 g r1 p1 h1 => ?_) ux
  split at h1
  · rename_i k
    simp only [RelT] at r1
    exact ⟨k, r1, up _ _ ⟨_, W1, g, rel_bl, p1, h1⟩⟩
  · exact h1.elim
theorem w_neg (ha : LE X Wx a ta) : LE X Wx (.UnaryOp .USub a pos) (fun τ W Q E => ta τ W (fun x W1 => match x with
  | .int k => Q (.int (-k)) W1
  | _ => False) E) := by
  refine PE.imp (pe_un un_neg ha) ?_
  rintro σ H Q ⟨τ, W, R, E, rs, rp, h, up, ux⟩
  refine lowE.go rs rp h (fun x W1 v H1 g r1 p1 h1 => ?_) ux
  split at h1
  · rename_i k
    simp only [RelT] at r1
    exact ⟨k, r1, up _ _ ⟨_, W1, g, rel_int, p1, h1⟩⟩
  · exact h1.elim
variable {tA tB : TTw}
def wAndT (ta tb : TTw) : TTw := fun τ W Q E => ta τ W (fun k W1 => if k = true then tb τ W1 Q E else Q false W1) E
def wOrT (ta tb : TTw) : TTw := fun τ W Q E => ta τ W (fun k W1 => if k = true then Q true W1 else tb τ W1 Q E) E
def wNotT (ta : TTw) : TTw := fun τ W Q E => ta τ W (fun k W1 => Q (!k) W1) E
abbrev LW (X : Cx) (Wx : WX) (e : Expr) (t : TTw) : Prop := PW X e (lowT X.K Wx t)
theorem lw_and1 (ha : LT X Wx a tA) : LW X Wx (.BoolOp .And [a] pos) tA := pw_and1 ha
theorem lw_or1 (ha : LT X Wx a tA) : LW X Wx (.BoolOp .Or [a] pos) tA := pw_or1 ha
theorem lw_and {rest : List Expr} (ha : LT X Wx a tA) (hb : LW X Wx (.BoolOp .And (b :: rest) pos) tB) : LW X Wx (.BoolOp .And (a :: b :: rest) pos) (wAndT tA tB) := by
  refine PW.imp (pw_and ha hb) ?_
  rintro σ H Q ⟨τ, W, R, E, rs, rp, h, up, ux⟩
  refine lowT.go rs rp h (fun k W1 H1 g p1 h1 => ?_) ux
  cases k with
  | true =>
    rw [if_pos rfl] at h1 ⊢
    exact lowT.go (rs.grow g) p1 h1 (fun z W4 H4 g4 p4 h4 => up _ _ ⟨W4, g.trans g4, p4, h4⟩) (ux.grow g)
  | false =>
    rw [if_neg Bool.false_ne_true] at h1 ⊢
    exact up _ _ ⟨W1, g, p1, h1⟩
theorem lw_or {rest : List Expr} (ha : LT X Wx a tA) (hb : LW X Wx (.BoolOp .Or (b :: rest) pos) tB) : LW X Wx (.BoolOp .Or (a :: b :: rest) pos) (wOrT tA tB) := by
  refine PW.imp (pw_or ha hb) ?_
  rintro σ H Q ⟨τ, W, R, E, rs, rp, h, up, ux⟩
  refine lowT.go rs rp h (fun k W1 H1 g p1 h1 => ?_) ux
  cases k with
  | false =>
    rw [if_neg Bool.false_ne_true] at h1 ⊢
    exact lowT.go (rs.grow g) p1 h1 (fun z W4 H4 g4 p4 h4 => up _ _ ⟨W4, g.trans g4, p4, h4⟩) (ux.grow g)
  | true =>
    rw [if_pos rfl] at h1 ⊢
    exact up _ _ ⟨W1, g, p1, h1⟩
theorem lt_w (h : LW X Wx a tA) : LT X Wx a tA := PW.pt h
theorem lt_not (ha : LT X Wx a tA) : LT X Wx (.UnaryOp .Not a pos) (wNotT tA) := by
  refine PT.imp (pt_not ha) ?_
  rintro σ H Q ⟨τ, W, R, E, rs, rp, h, up, ux⟩
  exact lowT.go rs rp h (fun k W1 H1 g p1 h1 => up _ _ ⟨W1, g, p1, h1⟩) ux
def wIf (tA : TTw) (ta tb : TEw) : TEw := fun τ W Q E => tA τ W (fun k W1 => if k = true then ta τ W1 Q E else tb τ W1 Q E) E
theorem w_ife (hc : LT X Wx c tA) (ha : LE X Wx a ta) (hb : LE X Wx b tb) : LE X Wx (.IfExp c a b pos) (wIf tA ta tb) := by
  refine PE.imp (pe_ifExp hc ha hb) ?_
  rintro σ H Q ⟨τ, W, R, E, rs, rp, h, up, ux⟩
  refine lowT.go rs rp h (fun k W1 H1 g p1 h1 => ?_) ux
  cases k with
  | true =>
    rw [if_pos rfl] at h1 ⊢
    exact lowE.go (rs.grow g) p1 h1 (fun z W4 w H4 g4 r4 p4 h4 => up _ _ ⟨z, W4, g.trans g4, r4, p4, h4⟩) (ux.grow g)
  | false =>
    rw [if_neg Bool.false_ne_true] at h1 ⊢
    exact lowE.go (rs.grow g) p1 h1 (fun z W4 w H4 g4 r4 p4 h4 => up _ _ ⟨z, W4, g.trans g4, r4, p4, h4⟩) (ux.grow g)

/-! ### arguments, displays -/
variable {e : Expr} {es : List Expr} {te : TEw} {t : TAw}
def wNil : TAw := fun _ W Q _ => Q [] W
def wCons (te : TEw) (tr : TAw) : TAw := fun τ W Q E => te τ W (fun x W1 => tr τ W1 (fun xs W2 => Q (x :: xs) W2) E) E
theorem la_nil : LA X Wx [] wNil := PA.imp pa_nil fun σ H Q ⟨τ, W, R, E, rs, rp, h, up, ux⟩ => up _ _ ⟨[], W, .refl _ _, .nil, rp, h⟩
theorem la_cons (ha : LE X Wx e te) (hr : LA X Wx es t) (hs : starEach (e :: es) X.env = (false, eval e X.env) :: starEach es X.env := by rfl) : LA X Wx (e :: es) (wCons te t) := by
  refine PA.imp (pa_cons ha hr hs) ?_
  rintro σ H Q ⟨τ, W, R, E, rs, rp, h, up, ux⟩
  refine lowE.go rs rp h (fun x W1 v H1 g r1 p1 h1 => ?_) ux
  refine lowA.go (rs.grow g) p1 h1 (fun y W2 u H2 g2 r2 p2 h2 => ?_) (ux.grow g)
  exact up _ _ ⟨x :: y, W2, g.trans g2, .cons (r1.grow g2) r2, p2, h2⟩
def wTup (t : TAw) : TEw := fun τ W Q E => t τ W (fun xs W1 => xs.length ≤ sizeLine ∧ Q (.tup xs) W1) E
def wLst (t : TAw) : TEw := fun τ W Q E => t τ W (fun xs W1 => xs.length ≤ sizeLine ∧ ∀ p, W1 p = none → Q (.ref p) (updw W1 p (.lst xs))) E
theorem w_tup {x1} (h : LA X Wx es t) : LE X Wx (.Tuple es x1 pos) (wTup t) := by
  refine PE.imp (pe_tup h) ?_
  rintro σ H Q ⟨τ, W, R, E, rs, rp, h, up, ux⟩
  refine lowA.go rs rp h (fun xs W1 v H1 g r1 p1 h1 => ?_) ux
  refine ⟨by rw [r1.len]; exact h1.1, fun p np => up _ _ (Up.of g (up_tup p1 np r1 h1.2))⟩
theorem w_lst (h : LA X Wx es t) : LE X Wx (.List es pos) (wLst t) := by
  refine PE.imp (pe_lst h) ?_
  rintro σ H Q ⟨τ, W, R, E, rs, rp, h, up, ux⟩
  refine lowA.go rs rp h (fun xs W1 v H1 g r1 p1 h1 => ?_) ux
  refine ⟨by rw [r1.len]; exact h1.1, fun p np => up _ _ (Up.of g (up_lst p1 np r1 h1.2))⟩

/-! ### subscripts -/
/-- the items of a list or a tuple -/
def itemsT (W : Hw) : T → Option (List T)
  | .tup xs => some xs
  | .rol xs => some xs
  | .ref a => match W a with
    | some (.lst xs) => some xs
    | _ => none
  | _ => none
def rIxT : R2w := fun a b W Q => match a, b with
  | .str z, .int i => z.length ≤ sizeLine ∧ match atI z.cps.toList i with
    | some c => Q (.str ⟨#[c]⟩) W
    | none => False
  | a, .int i => match itemsT W a with
    | some xs => match atI xs i with
      | some t => Q t W
      | none => False
    | none => False
  | _, _ => False
theorem atI_len {α β : Type} {xs : List α} {ys : List β} (h : xs.length = ys.length) {i : Int} {x : α} (e : atI xs i = some x) : ∃ j : Nat, xs[j]? = some x ∧ ∀ y, ys[j]? = some y → atI ys i = some y := by
  unfold atI at e ⊢
  rw [← h]
  cases q : ixN xs.length i with
  | none => rw [q] at e; cases e
  | some j => rw [q] at e; exact ⟨j, e, fun y hy => hy⟩
theorem RelTs.at {K : PySem.W.Frag} {H : Hp} {ts : List T} {vs : List V} {i : Int} {t : T} (r : RelTs K H ts vs) (e : atI ts i = some t) : ∃ v, atI vs i = some v ∧ RelT K H t v := by
  obtain ⟨j, e1, e2⟩ := atI_len r.len.symm e
  obtain ⟨v, e3, r3⟩ := r.get e1
  exact ⟨v, e2 v e3, r3⟩
theorem ixt : IxR X (low2 X.K rIxT) := by
  refine IxR.imp ix_seq ?_
  rintro x y H Q ⟨a, b, W, R, ra, rb, rp, h, up⟩
  unfold rIxT at h
  split at h
  · simp only [RelT] at ra rb; subst ra; subst rb
    obtain ⟨hl, h⟩ := h
    split at h
    · rename_i e
      exact .inr (.inr ⟨_, _, _, rfl, rfl, hl, e, up _ _ (up_same rp rel_str h)⟩)
    · exact h.elim
  · split at h
    · rename_i i _ xs e
      split at h
      · rename_i t e2
        simp only [RelT] at rb; subst rb
        unfold itemsT at e
        split at e
        · cases e
          simp only [RelT] at ra
          obtain ⟨p, vs, rfl, s, r⟩ := ra
          obtain ⟨v, e3, r3⟩ := r.at e2
          exact .inr (.inl ⟨_, _, _, v, rfl, rfl, SqT.of s, e3, up _ _ (up_same rp r3 h)⟩)
        · cases e
          simp only [RelT] at ra
          obtain ⟨p, vs, rfl, s, r⟩ := ra
          obtain ⟨v, e3, r3⟩ := r.at e2
          exact .inl ⟨_, _, _, v, rfl, rfl, s.sq, e3, up _ _ (up_same rp r3 h)⟩
        · split at e
          · rename_i e4
            cases e
            simp only [RelT] at ra
            subst ra
            obtain ⟨vs, g, r⟩ := rp.lst e4
            obtain ⟨v, e3, r3⟩ := r.at e2
            exact .inl ⟨_, _, _, v, rfl, rfl, SqL.of g, e3, up _ _ (up_same rp r3 h)⟩
          · cases e
        · cases e
      · exact h.elim
    · exact h.elim
  · exact h.elim
theorem w_ix (ha : LE X Wx a ta) (hb : LE X Wx b tb) (hs : PlainIx b := by exact fun _ _ => rfl) : LE X Wx (.Subscript a b pos) (wOp rIxT ta tb) := PE.imp (pe_ix ixt ha hb hs) fun σ H Q h => wOp_low h
end
end TL

set_option Elab.async false
set_option linter.all false
set_option maxRecDepth 100000
set_option maxHeartbeats 4000000
/-! TL: slices, calls -/
namespace TL
open PySem PySem.Spec PyProof.Rows L2
section
variable {X : Cx} {Wx : WX} {pos : Pos} {a b c e : Expr} {es : List Expr} {ta tb tc te : TEw} {t tk : TAw}

/-! ### slices -/
def cutT (xs : List T) (lo hi : Option Int) : List T := (xs.drop (HT.sIx xs.length 0 lo)).take (HT.sIx xs.length xs.length hi - HT.sIx xs.length 0 lo)
theorem RelTs.cut {K : PySem.W.Frag} {H : Hp} {ts : List T} {vs : List V} (r : RelTs K H ts vs) (lo hi : Option Int) : RelTs K H (cutT ts lo hi) (cutV vs lo hi) := by
  unfold cutT cutV
  rw [r.len]
  exact (r.drop _).take _
abbrev TOw := Sw → Hw → (Option Int → Hw → Prop) → Xw → Prop
def lowO (K : PySem.W.Frag) (Wx : WX) (t : TOw) : TO := fun σ H Q => ∃ τ W R E, RelS K H τ σ ∧ Rep K H W ∧ t τ W R E ∧ (∀ o H', (∃ W', Grow K H H' ∧ Rep K H' W' ∧ R o W') → Q o H') ∧ UpX K H E Wx
abbrev LO (X : Cx) (Wx : WX) (e : Option Expr) (t : TOw) : Prop := PO X e (lowO X.K Wx t)
theorem PO.imp {X : Cx} {e : Option Expr} {t t' : TO} (h : PO X e t) (i : ∀ σ H Q, t' σ H Q → t σ H Q) : PO X e t' := ⟨fun pins s σ H Q I q => h.run pins s σ H Q I (i σ H Q q)⟩
def wNoPart : TOw := fun _ W Q _ => Q none W
def wPart (te : TEw) : TOw := fun τ W Q E => te τ W (fun x W1 => match x with
  | .int i => Q (some i) W1
  | _ => False) E
theorem lo_none : LO X Wx none wNoPart := PO.imp po_none fun σ H Q ⟨τ, W, R, E, rs, rp, h, up, ux⟩ => up _ _ ⟨W, .refl _ _, rp, h⟩
theorem lo_some (he : LE X Wx e te) : LO X Wx (some e) (wPart te) := by
  refine PO.imp (po_some he) ?_
  rintro σ H Q ⟨τ, W, R, E, rs, rp, h, up, ux⟩
  refine lowE.go rs rp h (fun x W1 v H1 g r1 p1 h1 => ?_) ux
  split at h1
  · simp only [RelT] at r1
    exact ⟨_, r1, up _ _ ⟨W1, g, p1, h1⟩⟩
  · exact h1.elim
def rSlT (x : T) (lo hi : Option Int) (W : Hw) (Q : Kw) : Prop := match x with
  | .tup xs => Q (.tup (cutT xs lo hi)) W
  | .str z => z.length ≤ sizeLine ∧ Q (.str (cutS z lo hi)) W
  | .rol xs => ∀ p, W p = none → Q (.ref p) (updw W p (.lst (cutT xs lo hi)))
  | .ref a => match W a with
    | some (.lst xs) => ∀ p, W p = none → Q (.ref p) (updw W p (.lst (cutT xs lo hi)))
    | _ => False
  | _ => False
def lowSl (K : PySem.W.Frag) : V → Option Int → Option Int → Hp → VK → Prop := fun x lo hi H Q => ∃ a W R, RelT K H a x ∧ Rep K H W ∧ rSlT a lo hi W R ∧ ∀ v H', Up K H R v H' → Q v H'
theorem cut_whole {xs : List T} {lo hi : Option Int} (h : HT.sIx xs.length 0 lo = 0 ∧ HT.sIx xs.length xs.length hi = xs.length) : cutT xs lo hi = xs := by
  unfold cutT
  rw [h.1, h.2]
  simp
theorem slt : SlR X (lowSl X.K) := by
  refine SlR.imp (SlR.or (SlR.or sl_list sl_tupA) sl_str) ?_
  rintro x lo hi H Q ⟨a, W, R, ra, rp, h, up⟩
  unfold rSlT at h
  split at h
  · simp only [RelT] at ra
    obtain ⟨p, vs, rfl, s, r⟩ := ra
    refine .inl (.inr ⟨p, vs, rfl, SqT.of s, fun hw => ?_, fun hn q nq => ?_⟩)
    · rw [r.len] at hw
      rw [cut_whole hw] at h
      exact up _ _ (up_same rp (by simp only [RelT]; exact ⟨p, vs, rfl, s, r⟩) h)
    · exact up _ _ (up_tup rp nq (r.cut lo hi) h)
  · simp only [RelT] at ra; subst ra
    exact .inr ⟨_, rfl, h.1, up _ _ (up_same rp rel_str h.2)⟩
  · simp only [RelT] at ra
    obtain ⟨p, vs, rfl, s, r⟩ := ra
    exact .inl (.inl ⟨p, vs, rfl, s.sq, fun q nq => up _ _ (up_lst rp nq (r.cut lo hi) h)⟩)
  · simp only [RelT] at ra; subst ra
    split at h
    · rename_i e
      obtain ⟨vs, g, r⟩ := rp.lst e
      exact .inl (.inl ⟨_, vs, rfl, SqL.of g, fun q nq => up _ _ (up_lst rp nq (r.cut lo hi) h)⟩)
    · exact h.elim
  · exact h.elim
def wSl (te : TEw) (tl th : TOw) : TEw := fun τ W Q E => te τ W (fun x W1 => tl τ W1 (fun lo W2 => th τ W2 (fun hi W3 => rSlT x lo hi W3 Q) E) E) E
theorem w_slice {lo hi : Option Expr} {tl th : TOw} {p2 : Pos} (he : LE X Wx e te) (hl : LO X Wx lo tl) (hu : LO X Wx hi th) : LE X Wx (.Subscript e (.Slice lo hi none p2) pos) (wSl te tl th) := by
  refine PE.imp (pe_slice slt he hl hu) ?_
  rintro σ H Q ⟨τ, W, R, E, rs, rp, h, up, ux⟩
  refine lowE.go rs rp h (fun x W1 v H1 g r1 p1 h1 => ?_) ux
  refine ⟨τ, W1, _, E, rs.grow g, p1, h1, fun lo H2 ⟨W2, g2, p2, h2⟩ => ?_, ux.grow g⟩
  refine ⟨τ, W2, _, E, rs.grow (g.trans g2), p2, h2, fun hi H3 ⟨W3, g3, p3, h3⟩ => ?_, ux.grow (g.trans g2)⟩
  exact ⟨x, W3, R, r1.grow (g2.trans g3), p3, h3, fun v' H' q => up v' H' (q.of ((g.trans g2).trans g3))⟩
/-- xs[::-1] of a list -/
def wRev (te : TEw) : TEw := fun τ W Q E => te τ W (fun x W1 => match itemsT W1 x with
  | some xs => (match x with
    | .tup _ => False
    | _ => True) ∧ ∀ p, W1 p = none → Q (.ref p) (updw W1 p (.lst xs.reverse))
  | none => False) E
theorem w_rev {k : Nat} {p1 p2 p3 : Pos} (he : LE X Wx e te) : LE X Wx (.Subscript e (.Slice none none (some (.UnaryOp .USub (.Constant (.int 1) k p1) p2)) p3) pos) (wRev te) := by
  refine PE.imp (pe_revL he) ?_
  rintro σ H Q ⟨τ, W, R, E, rs, rp, h, up, ux⟩
  refine lowE.go rs rp h (fun x W1 v H1 g r1 p1 h1 => ?_) ux
  split at h1
  · rename_i xs e1
    obtain ⟨hn, h1⟩ := h1
    unfold itemsT at e1
    split at e1
    · exact hn.elim
    · cases e1
      simp only [RelT] at r1
      obtain ⟨p, vs, rfl, s, r⟩ := r1
      exact ⟨p, vs, rfl, s.sq, fun q nq => up _ _ (Up.of g (up_lst p1 nq r.reverse h1))⟩
    · split at e1
      · rename_i e2
        cases e1
        simp only [RelT] at r1; subst r1
        obtain ⟨vs, gg, r⟩ := p1.lst e2
        exact ⟨_, vs, rfl, SqL.of gg, fun q nq => up _ _ (Up.of g (up_lst p1 nq r.reverse h1))⟩
      · cases e1
    · cases e1
  · exact h1.elim

/-! ### what a def promises -/
abbrev Spw := List T → Hw → Kw → (Addr → T → Hw → Prop) → Prop
def lowF (K : PySem.W.Frag) (S : Spw) : Sp := fun vs H Q E => ∃ ws W R Ew, RelTs K H ws vs ∧ Rep K H W ∧ S ws W R Ew ∧ (∀ v H', Up K H R v H' → Q v H') ∧
  ∀ C t W' v dd H', Grow K H H' → H' dd = some (.xd [(("thing" : Str), v)]) → RelT K H' t v → (Rep K H' W' ∧ W' dd = none) → Ew C t W' → E (.ref C) (some dd) H'
abbrev FnT (P : Program) (w : World) (K : PySem.W.Frag) (mg : Str → Option Value) (base : Heap) (k : Nat) (f : Addr) (fd : FuncData) (ps : List Str) (S : Spw) : Prop := FnOk P w K mg base (L2.CX P w) k f fd ps (lowF K S)
/-- the def-level wish -/
abbrev defX (E : XK) : WX := fun cls d _ H => E cls d H
def startw (N : List Str) (ws : List T) : Sw := ws.map some ++ List.replicate (N.length - ws.length) none
theorem rel_start {K : PySem.W.Frag} {H : Hp} {N : List Str} {ws : List T} {vs : List V} (r : RelTs K H ws vs) : RelS K H (startw N ws) (L2.start N vs) := by
  refine ⟨by unfold startw L2.start; simp [r.len], fun i t e => ?_⟩
  unfold startw at e
  unfold L2.start
  by_cases hi : i < ws.length
  · rw [List.getElem?_append_left (by simpa using hi), List.getElem?_map] at e
    cases q : ws[i]? with
    | none => rw [q] at e; cases e
    | some u =>
      rw [q] at e
      cases e
      obtain ⟨v, e2, r2⟩ := r.get q
      refine ⟨v, ?_, r2⟩
      rw [List.getElem?_append_left (by simp [r.len]; exact hi), List.getElem?_map, e2]
      rfl
  · rw [List.getElem?_append_right (by simpa using Nat.le_of_not_lt hi), List.getElem?_replicate] at e
    split at e <;> cases e
/-- the ends of a def -/
def endsF (R : Kw) (Ew : Addr → T → Hw → Prop) : EndsW where
  nx := fun _ W' => ∃ W0, Sub W0 W' ∧ R .non W0
  rt := fun t W' => ∃ W0, Sub W0 W' ∧ R t W0
  ex := fun C t _ W' => ∃ W0, Sub W0 W' ∧ Ew C t W0
theorem FnT.ok {P : Program} {w : World} {K : PySem.W.Frag} {mg : Str → Option Value} {base : Heap} {x qual : Str} {st : Stmt} {f : Addr} {fd : FuncData} {N ps : List Str} {k : Nat} {S : Spw} {tw : TSw} (F : Fun K x qual st f fd) (Sc : FnScope N ps (defScope st))
    (len : ∀ ws W R E, S ws W R E → ws.length = ps.length)
    (term : ∀ (cdv : Value) (A : Around) (outer : List Env) (s : Shared) (H : Hp) (E : XK), Room k (A.deeper (envOfC qual (defScope st) s.heap.objs.size f cdv)) →
      LSs (cxOf (L2.CX P w) P w K mg base N qual (defScope st) f cdv A outer s H E) (defX E) (defBody st) tw)
    (sem : ∀ ws W R E, S ws W R E → tw (endsF R E) (startw N ws) W) : FnT P w K mg base (k + 1) f fd ps S := by
  refine F.okX Sc (fun vs H Q E ⟨ws, W, R, Ew, r, p, h, _⟩ => ?_) (fun cdv A outer s H vs Q E hr ⟨ws, W, R, Ew, r, rp, h, up, ux⟩ => ?_)
  · rw [r.len]; exact len _ _ _ _ h
  · refine ⟨_, term cdv A outer s H E hr, ⟨startw N ws, W, endsF R Ew, rel_start r, rp, sem ws W R Ew h, ⟨?_, ?_, ?_, ?_⟩, ?_⟩⟩
    · rintro σ' H' ⟨τ', W', g, rs', rp', W0, sb, q⟩
      exact up _ _ ⟨.non, W0, g, rel_non, rp'.sub sb, q⟩
    · rintro v H' ⟨t, W', g, r', rp', W0, sb, q⟩
      exact up _ _ ⟨t, W0, g, r', rp'.sub sb, q⟩
    · rintro σ' H' ⟨τ', W', g, rs', rp', q⟩
      exact q
    · rintro σ' H' ⟨τ', W', g, rs', rp', q⟩
      exact q
    · rintro C t W' v dd τ' σ' H' g e r' rs' rp' ⟨W0, sb, q⟩
      exact ux C t W0 v dd H' g e r' ⟨rp'.1.sub sb, sb.out rp'.2⟩ q

/-! ### calls of own defs -/
variable {k : Nat} {f : Addr} {fd : FuncData} {ps ks : List Str} {S : Spw} {x : Str} {p : Pos}
def wCall (S : Spw) (t : TAw) : TEw := fun τ W Q E => t τ W (fun ws W1 => S ws W1 Q (fun C th W' => E C th τ W')) E
theorem wCall_low {σ : L2.St} {H : Hp} {Q : VK} (h : lowE X.K Wx (wCall S t) σ H Q) : lowA X.K Wx t σ H fun vs H1 => lowF X.K S vs H1 Q (WE Wx σ) := by
  obtain ⟨τ, W, R, E, rs, rp, h, up, ux⟩ := h
  refine lowA.go rs rp h (fun ws W1 vs H1 g r1 p1 h1 => ?_) ux
  exact ⟨ws, W1, R, _, r1, p1, h1, fun v H' q => up v H' (q.of g), fun C t W' v dd H' g' e r p z => ux C t W' v dd τ σ H' (g.trans g') e r (rs.grow (g.trans g')) p z⟩
theorem w_call (F : FnT X.prog X.w X.K X.mg X.base k f fd ps S) (hr : Room k X.A) (hm : X.mg x = some (.ref f)) (hk : PySem.W.keepIn X.K (.ref f) = true) (hb : Binds X.K fd ps []) (tk : Takes X Wx) (ha : LA X Wx (e :: es) t)
    (hg : Gl X x := by rfl) (hdb : (x == ("__debug__" : Str)) = false := by decide) (he : starEach (e :: es) X.env = (false, eval e X.env) :: starEach es X.env := by rfl) (hpl : (backTo pos (starEach es X.env)).any (·.1) = false := by rfl) :
    LE X Wx (.Call (.Name x p) (e :: es) [] pos) (wCall S t) := PE.imp (pe_callS F hr hg hm hk hb (fun σ => passAt tk σ) ha hdb he hpl) fun σ H Q h => wCall_low h
/-- keywords alone -/
def pmI {α : Type} (is : List Nat) (xs : List α) : List α := is.filterMap fun i => xs[i]?
theorem pmI_vals {vs : List V} {us : List Value} (r : Vals vs us) : ∀ is : List Nat, Vals (pmI is vs) (pmI is us)
  | [] => .nil
  | i :: is => by
    unfold pmI
    cases e : vs[i]? with
    | none =>
      rw [List.filterMap_cons_none e, List.filterMap_cons_none (Vals.none_of r e)]
      exact pmI_vals r is
    | some v =>
      obtain ⟨u, e2, rv⟩ := r.get e
      rw [List.filterMap_cons_some e, List.filterMap_cons_some e2]
      exact .cons rv (pmI_vals r is)
theorem pmI_rel {K : PySem.W.Frag} {H : Hp} {ts : List T} {vs : List V} (r : RelTs K H ts vs) : ∀ is : List Nat, RelTs K H (pmI is ts) (pmI is vs)
  | [] => .nil
  | i :: is => by
    unfold pmI
    cases e : ts[i]? with
    | none =>
      have e' : vs[i]? = none := by
        rw [List.getElem?_eq_none_iff] at e ⊢
        rw [r.len]; exact e
      rw [List.filterMap_cons_none e, List.filterMap_cons_none e']
      exact pmI_rel r is
    | some v =>
      obtain ⟨u, e2, rv⟩ := r.get e
      rw [List.filterMap_cons_some e, List.filterMap_cons_some e2]
      exact .cons rv (pmI_rel r is)
abbrev LK (X : Cx) (Wx : WX) (kws : List Keyword) (t : TAw) : Prop := PK X kws (lowA X.K Wx t)
theorem PK.imp {X : Cx} {e : List Keyword} {t t' : TA} (h : PK X e t) (i : ∀ σ H Q, t' σ H Q → t σ H Q) : PK X e t' := ⟨fun p pins s σ H Q I q => h.run p pins s σ H Q I (i σ H Q q)⟩
theorem lk_nil : LK X Wx [] wNil := PK.imp pk_nil fun σ H Q ⟨τ, W, R, E, rs, rp, h, up, ux⟩ => up _ _ ⟨[], W, .refl _ _, .nil, rp, h⟩
theorem lk_cons {nm : Option Str} {kpos : Pos} {kws : List Keyword} (ha : LE X Wx e te) (hr : LK X Wx kws t) : LK X Wx (⟨nm, e, kpos⟩ :: kws) (wCons te t) := by
  refine PK.imp (pk_cons ha hr) ?_
  rintro σ H Q ⟨τ, W, R, E, rs, rp, h, up, ux⟩
  refine lowE.go rs rp h (fun x W1 v H1 g r1 p1 h1 => ?_) ux
  refine lowA.go (rs.grow g) p1 h1 (fun y W2 u H2 g2 r2 p2 h2 => ?_) (ux.grow g)
  exact up _ _ ⟨x :: y, W2, g.trans g2, .cons (r1.grow g2) r2, p2, h2⟩
/-- how keywords bind: is tells, for each parameter, the keyword's place -/
def KwB (K : PySem.W.Frag) (fd : FuncData) (ps ks : List Str) (is : List Nat) : Prop := ∀ (s : Shared) (ws : List Value), K.In s.heap → (pmI is ws).length = ps.length → BindsTo s fd ⟨[], ks.zip ws⟩ (ps.zip (pmI is ws))
def wCallK (S : Spw) (is : List Nat) (t : TAw) : TEw := fun τ W Q E => t τ W (fun ws W1 => S (pmI is ws) W1 Q (fun C th W' => E C th τ W')) E
theorem w_callK {kws : List Keyword} {is : List Nat} (F : FnT X.prog X.w X.K X.mg X.base k f fd ps S) (hr : Room k X.A) (hm : X.mg x = some (.ref f)) (hk : PySem.W.keepIn X.K (.ref f) = true) (hb : KwB X.K fd ps ks is) (tk0 : Takes X Wx) (hkw : LK X Wx kws tk)
    (hg : Gl X x := by rfl) (hall : (backToKw pos (keywordEach kws X.env)).all (·.1.isSome) = true := by rfl) (hks : (backToKw pos (keywordEach kws X.env)).filterMap (·.1) = ks := by rfl) (hdb : (x == ("__debug__" : Str)) = false := by decide)
    (hpl : ((backTo pos (starEach [] X.env)).any (·.1) || (backToKw pos (keywordEach kws X.env)).any (·.1.isNone)) = false := by rfl) :
    LE X Wx (.Call (.Name x p) [] kws pos) (wCallK S is tk) := by
  refine ⟨fun pins s σ H Q I h => ?_⟩
  refine wpAny_Call_Name_kw (ld_glob I hg hm ?_ hdb)
  refine PySem.W.callWith_KW0 (h₀ := X.base) I.ok.mod.kin hk hall ?_ hpl
  obtain ⟨τ, W, R, E, rs, rp, h, up, ux⟩ := h
  refine thn (hkw.run pos pins s σ H _ I (lowA.go rs rp h (fun ws W1 vs H1 g r1 p1 h1 => (⟨g, ws, W1, r1, p1, h1⟩ : Grow X.K H H1 ∧ ∃ ws W1, RelTs X.K H1 ws vs ∧ Rep X.K H1 W1 ∧ S (pmI is ws) W1 R fun C th W' => E C th τ W')) ux)) fun us s2 ⟨vs, H2, I2, rz, g, ws, W1, r1, p1, h1⟩ => ⟨I2.kIn, ?_⟩
  rw [hks]
  have rr := pmI_rel r1 is
  have hq : lowF X.K S (pmI is vs) H2 Q (WE Wx σ) := ⟨pmI is ws, W1, R, _, rr, p1, h1, fun v H' q => up v H' (q.of g), fun C t W' v dd H' g' e r p z => ux C t W' v dd τ σ H' (g.trans g') e r (rs.grow (g.trans g')) p z⟩
  have rz2 := pmI_vals rz is
  have hl : (pmI is us).length = ps.length := by rw [← rz2.length]; exact F.len _ _ _ _ hq
  refine wpAny_call (codeAny_mono (F.run X.A X.stack s2 H2 ⟨[], ks.zip us⟩ (pmI is us) (pmI is vs) Q (WE Wx σ) hr I2.env0 (hb s2 us I2.kIn hl) rz2 hq) fun r s' hq' => ?_)
  cases r with
  | error e => exact passAt tk0 σ pins H2 s2 e s' I2 hq'
  | ok fl =>
    cases fl with
    | ret u => exact I2.after hq'
    | next => exact False.elim hq'
    | brk => exact False.elim hq'
    | cont => exact False.elim hq'

/-! ### calls of built-ins -/
def wCB (r : List T → Hw → Kw → Prop) (t : TAw) : TEw := fun τ W Q E => t τ W (fun ws W1 => r ws W1 Q) E
theorem wCB_low {r : List T → Hw → Kw → Prop} {σ : L2.St} {H : Hp} {Q : VK} (h : lowE X.K Wx (wCB r t) σ H Q) : tCB (lowC X.K r) (lowA X.K Wx t) σ H Q := by
  obtain ⟨τ, W, R, E, rs, rp, h, up, ux⟩ := h
  refine lowA.go rs rp h (fun ws W1 vs H1 g r1 p1 h1 => ?_) ux
  exact ⟨ws, W1, R, r1, p1, h1, fun v H' q => up v H' (q.of g)⟩
theorem w_callB {id : String} {r : List T → Hw → Kw → Prop} (hc : CallT X (.builtin id) r) (hm : X.mg x = none) (hv : bootBuiltins x = some (.builtin id)) (ha : LA X Wx (e :: es) t) (hg : Gl X x := by rfl) (hn : x ≠ "__name__" := by decide) (hdb : (x == ("__debug__" : Str)) = false := by decide)
    (he : starEach (e :: es) X.env = (false, eval e X.env) :: starEach es X.env := by rfl) (hpl : (backTo pos (starEach es X.env)).any (·.1) = false := by rfl) : LE X Wx (.Call (.Name x p) (e :: es) [] pos) (wCB r t) :=
  PE.imp (pe_callB hc hg hm hv ha hn hdb he hpl) fun σ H Q h => wCB_low h
theorem w_callTy {id : String} {r : List T → Hw → Kw → Prop} (hc : CallT X (.type id) r) (hm : X.mg x = none) (hv : bootBuiltins x = some (.type id)) (ha : LA X Wx (e :: es) t) (hg : Gl X x := by rfl) (hn : x ≠ "__name__" := by decide) (hdb : (x == ("__debug__" : Str)) = false := by decide)
    (he : starEach (e :: es) X.env = (false, eval e X.env) :: starEach es X.env := by rfl) (hpl : (backTo pos (starEach es X.env)).any (·.1) = false := by rfl) : LE X Wx (.Call (.Name x p) (e :: es) [] pos) (wCB r t) :=
  PE.imp (pe_callTy hc hg hm hv ha hn hdb he hpl) fun σ H Q h => wCB_low h

/-! ### methods of built-in types -/
def kindT (W : Hw) : T → String
  | .str _ => "str"
  | .rol _ => "list"
  | .ref a => match W a with
    | some (.lst _) => "list"
    | some (.dic _) => "dict"
    | some (.dit _) => "dict"
    | _ => ""
  | _ => ""
theorem kind_ty {K : PySem.W.Frag} {H : Hp} {W : Hw} {t : T} {v : V} {n : String} (rp : Rep K H W) (r : RelT K H t v) (h : kindT W t = n) (hn : n ≠ "") : tyV K n v H := by
  unfold kindT at h
  split at h
  · simp only [RelT] at r; subst r; exact h.symm
  · simp only [RelT] at r
    obtain ⟨p, vs, rfl, s, _⟩ := r
    exact .inl ⟨h.symm, vs, s.sq⟩
  · simp only [RelT] at r; subst r
    split at h
    · rename_i e
      obtain ⟨vs, g, _⟩ := rp.lst e
      exact .inl ⟨h.symm, vs, SqL.of g⟩
    · rename_i e
      obtain ⟨ps, g, _⟩ := rp _ _ e
      exact .inr (.inr (.inl ⟨h.symm, .inl ⟨ps, g⟩⟩))
    · rename_i e
      obtain ⟨ps, g, _⟩ := rp _ _ e
      exact .inr (.inr (.inl ⟨h.symm, .inr ⟨ps, g⟩⟩))
    · exact absurd h.symm hn
  · exact absurd h.symm hn
variable {o : Expr} {name : Str} {apos : Pos} {to : TEw}
def wBM (n : String) (r : T → List T → Hw → Kw → Prop) (to : TEw) (t : TAw) : TEw := fun τ W Q E => to τ W (fun x W1 => kindT W1 x = n ∧ t τ W1 (fun xs W2 => r x xs W2 Q) E) E
theorem w_bm {n id : String} {r : T → List T → Hw → Kw → Prop} (pa : PlainAttrs n) (slot : Slot n name id) (hty : typeOf (.builtin id) = pure (.type "method_descriptor")) (hm : MtT X id r) (ho : LE X Wx o to) (ha : LA X Wx (e :: es) t) (hn : n ≠ "" := by decide)
    (hbase : attributeBase o name X.env (eval o X.env) = eval o X.env := by rfl)
    (hfew : ((backTo pos (starEach (e :: es) X.env)).all (fun x => !x.1) && (backToKw pos (keywordEach [] X.env)).all (fun x => x.1.isSome)
      && decide ((e :: es).length + ([] : List Keyword).length + (if ([] : List Keyword).isEmpty then 0 else 1) < 30)) = true := by rfl)
    (hline : (apos.endLine == pos.line) = true := by rfl) (hs : starEach (e :: es) X.env = (false, eval e X.env) :: starEach es X.env := by rfl) (hplain : (backTo pos (starEach es X.env)).any (·.1) = false := by rfl) :
    LE X Wx (.Call (.Attribute o name apos) (e :: es) [] pos) (wBM n r to t) := by
  refine PE.imp (pe_bm pa slot hty hm ho ha hbase hfew hline hs hplain) ?_
  rintro σ H Q ⟨τ, W, R, E, rs, rp, h, up, ux⟩
  refine lowE.go rs rp h (fun x W1 v H1 g r1 p1 ⟨hk, h1⟩ => ⟨kind_ty p1 r1 hk hn, ?_⟩) ux
  refine lowA.go (rs.grow g) p1 h1 (fun ws W2 vs H2 g2 r2 p2 h2 => ?_) (ux.grow g)
  exact ⟨x, ws, W2, R, r1.grow g2, r2, p2, h2, fun v H' q => up v H' (q.of (g.trans g2))⟩
theorem w_bm0 {n id : String} {r : T → List T → Hw → Kw → Prop} (pa : PlainAttrs n) (slot : Slot n name id) (hty : typeOf (.builtin id) = pure (.type "method_descriptor")) (hm : MtT X id r) (ho : LE X Wx o to) (hn : n ≠ "" := by decide)
    (hbase : attributeBase o name X.env (eval o X.env) = eval o X.env := by rfl) (hline : (apos.endLine == pos.line) = true := by rfl) :
    LE X Wx (.Call (.Attribute o name apos) [] [] pos) (wBM n r to wNil) := by
  refine PE.imp (pe_bm0 pa slot hty hm ho hbase hline) ?_
  rintro σ H Q ⟨τ, W, R, E, rs, rp, h, up, ux⟩
  refine lowE.go rs rp h (fun x W1 v H1 g r1 p1 ⟨hk, h1⟩ => ⟨kind_ty p1 r1 hk hn, ?_⟩) ux
  exact ⟨x, [], W1, R, r1, .nil, p1, h1, fun v H' q => up v H' (q.of g)⟩
end
end TL

set_option Elab.async false
set_option linter.all false
set_option maxRecDepth 100000
set_option maxHeartbeats 4000000
/-! TL: targets, statements, loops -/
namespace TL
open PySem PySem.Spec PyProof.Rows L2

/-! ### targets: names and tuples of such -/
inductive Tgt where
  | name (i : Nat)
  | tup (gs : List Tgt)
mutual
def setG : Tgt → T → Sw → Option Sw
  | .name i, t, τ => some (τ.set i (some t))
  | .tup gs, .tup ts, τ => setGs gs ts τ
  | .tup _, _, _ => none
def setGs : List Tgt → List T → Sw → Option Sw
  | [], [], τ => some τ
  | g :: gs, t :: ts, τ => match setG g t τ with
    | some τ' => setGs gs ts τ'
    | none => none
  | _, _, _ => none
end
mutual
def gV (K : PySem.W.Frag) : Tgt → TG
  | .name i => gName i
  | .tup gs => gTup K gs.length (gVs K gs)
def gVs (K : PySem.W.Frag) : List Tgt → TGs
  | [] => gNil
  | g :: gs => gCons (gV K g) (gVs K gs)
end
mutual
def slotsG : Tgt → List Nat
  | .name i => [i]
  | .tup gs => slotsGs gs
def slotsGs : List Tgt → List Nat
  | [] => []
  | g :: gs => slotsG g ++ slotsGs gs
end
theorem wipe_set {σ : L2.St} {i : Nat} {v : Option V} : ∀ {vs : List Nat}, i ∈ vs → wipe (σ.set i v) vs = wipe σ vs
  | [], h => by cases h
  | j :: vs, h => by
    unfold wipe
    by_cases hj : i ∈ vs
    · rw [wipe_set hj]
    · have e : i = j := by
        cases h with
        | head => rfl
        | tail _ h => exact absurd h hj
      subst e
      have go : ∀ us : List Nat, i ∉ us → wipe (σ.set i v) us = (wipe σ us).set i v := fun us => by
        induction us with
        | nil => intro _; rfl
        | cons k us ih =>
          intro hk
          unfold wipe
          rw [ih (fun z => hk (List.mem_cons_of_mem _ z)), List.set_comm _ _ (fun z => hk (by rw [z]; exact List.mem_cons_self))]
      rw [go vs hj, List.set_set]
mutual
theorem setG_len : ∀ (g : Tgt) (t : T) {τ τ' : Sw}, setG g t τ = some τ' → τ'.length = τ.length
  | .name i, t, τ, τ', h => by
    simp only [setG, Option.some.injEq] at h
    subst h; simp
  | .tup gs, t, τ, τ', h => by
    cases t <;> simp only [setG] at h <;> first | (cases h; done) | exact setGs_len gs _ h
theorem setGs_len : ∀ (gs : List Tgt) (ts : List T) {τ τ' : Sw}, setGs gs ts τ = some τ' → τ'.length = τ.length
  | [], [], τ, τ', h => by simp only [setGs, Option.some.injEq] at h; subst h; rfl
  | [], _ :: _, τ, τ', h => by simp [setGs] at h
  | _ :: _, [], τ, τ', h => by simp [setGs] at h
  | g :: gs, t :: ts, τ, τ', h => by
    simp only [setGs] at h
    split at h
    · rename_i τ1 e
      rw [setGs_len gs ts h, setG_len g t e]
    · cases h
end
mutual
theorem setG_ok {K : PySem.W.Frag} {H : Hp} : ∀ (g : Tgt) {t : T} {v : V} {τ τ' : Sw} {σ : L2.St} {Q : L2.St → Hp → Prop}, RelT K H t v → RelS K H τ σ → setG g t τ = some τ' →
    (∀ σ', RelS K H τ' σ' → (∀ vs, (∀ i ∈ slotsG g, i ∈ vs) → wipe σ' vs = wipe σ vs) → Q σ' H) → gV K g v σ H Q
  | .name i, t, v, τ, τ', σ, Q, rt, rs, e, q => by
    simp only [setG, Option.some.injEq] at e
    subst e
    simp only [gV]
    exact q _ (rs.set i rt) fun vs h => wipe_set (h i (by simp [slotsG]))
  | .tup gs, .tup ts, v, τ, τ', σ, Q, rt, rs, e, q => by
    simp only [setG] at e
    simp only [RelT] at rt
    obtain ⟨a, vs, rfl, h, r⟩ := rt
    simp only [gV]
    refine ⟨a, vs, rfl, SqT.of h, ?_, ?_⟩
    · rw [r.len]; exact setGs_length gs ts e
    · exact setGs_ok gs r rs e fun σ' r' w => q σ' r' fun us h => w us (by simpa only [slotsG] using h)
  | .tup _, .non, _, _, _, _, _, _, _, e, _ => by simp [setG] at e
  | .tup _, .bl _, _, _, _, _, _, _, _, e, _ => by simp [setG] at e
  | .tup _, .int _, _, _, _, _, _, _, _, e, _ => by simp [setG] at e
  | .tup _, .str _, _, _, _, _, _, _, _, e, _ => by simp [setG] at e
  | .tup _, .rol _, _, _, _, _, _, _, _, e, _ => by simp [setG] at e
  | .tup _, .ref _, _, _, _, _, _, _, _, e, _ => by simp [setG] at e
  | .tup _, .ty _, _, _, _, _, _, _, _, e, _ => by simp [setG] at e
theorem setGs_length : ∀ (gs : List Tgt) (ts : List T) {τ τ' : Sw}, setGs gs ts τ = some τ' → ts.length = gs.length
  | [], [], _, _, _ => rfl
  | [], _ :: _, τ, τ', h => by simp [setGs] at h
  | _ :: _, [], τ, τ', h => by simp [setGs] at h
  | g :: gs, t :: ts, τ, τ', h => by
    simp only [setGs] at h
    split at h
    · simp only [List.length_cons, setGs_length gs ts h]
    · cases h
theorem setGs_ok {K : PySem.W.Frag} {H : Hp} : ∀ (gs : List Tgt) {ts : List T} {vs : List V} {τ τ' : Sw} {σ : L2.St} {Q : L2.St → Hp → Prop}, RelTs K H ts vs → RelS K H τ σ → setGs gs ts τ = some τ' →
    (∀ σ', RelS K H τ' σ' → (∀ us, (∀ i ∈ slotsGs gs, i ∈ us) → wipe σ' us = wipe σ us) → Q σ' H) → gVs K gs vs σ H Q
  | [], [], vs, τ, τ', σ, Q, rt, rs, e, q => by
    simp only [setGs, Option.some.injEq] at e
    subst e
    simp only [gVs]
    exact ⟨rt.inv_nil, q σ rs fun us h => rfl⟩
  | [], _ :: _, _, _, _, _, _, _, _, e, _ => by simp [setGs] at e
  | _ :: _, [], _, _, _, _, _, _, _, e, _ => by simp [setGs] at e
  | g :: gs, t :: ts, vs, τ, τ', σ, Q, rt, rs, e, q => by
    simp only [setGs] at e
    split at e
    · rename_i τ1 e1
      obtain ⟨v, r, rfl, r1, r2⟩ := rt.inv_cons
      simp only [gVs]
      refine ⟨v, r, rfl, setG_ok g r1 rs e1 fun σ1 rs1 w1 => ?_⟩
      exact setGs_ok gs r2 rs1 e fun σ2 rs2 w2 => q σ2 rs2 fun us h => by
        rw [w2 us fun i hi => h i (by simp only [slotsGs, List.mem_append]; exact .inr hi), w1 us fun i hi => h i (by simp only [slotsGs, List.mem_append]; exact .inl hi)]
    · cases e
end
section
variable {X : Cx} {Wx : WX} {pos : Pos} {a b c e o i : Expr} {es : List Expr} {ta tb tc te to ti : TEw} {t tk : TAw} {tA : TTw} {st : Stmt} {rest : List Stmt} {ts us : TSw}
theorem g_name (i : Nat) {x : Str} (hN : X.N.Nodup) (hi : X.N[i]? = some x := by rfl) (hx : Loc X.env.scope x := by first | exact Or.inl rfl | exact Or.inr rfl) (hf : X.fn x = true ∨ X.env.scope.names.lookup x = some .local := by first | exact .inl rfl | exact .inr rfl) : PG X (.Name x pos) (gV X.K (.name i)) := by
  simp only [gV]; exact pg_name hN hi hx hf
theorem gs_nil : PGs X [] (gVs X.K []) := by simp only [gVs]; exact pgs_nil
theorem gs_cons {g : Tgt} {gs : List Tgt} (h1 : PG X e (gV X.K g)) (h2 : PGs X es (gVs X.K gs)) (hs : (assignEach (e :: es) X.env).map (·.2) = assign e X.env :: (assignEach es X.env).map (·.2) := by rfl) : PGs X (e :: es) (gVs X.K (g :: gs)) := by
  simp only [gVs]; exact pgs_cons h1 h2 hs
theorem g_tup {gs : List Tgt} {k : Nat} (hc : X.calm = true) (h : PGs X es (gVs X.K gs)) (hn : (assignEach es X.env).length = gs.length := by rfl) (hst : (assignEach es X.env).findIdx? (·.1) = none := by rfl) : PG X (.Tuple es k pos) (gV X.K (.tup gs)) := by
  simp only [gV]; exact pg_tup hc h hn hst

/-! ### statements -/
def wNext : TSw := fun D τ W => D.nx τ W
def wSeq (t u : TSw) : TSw := fun D τ W => t { D with nx := u D } τ W
theorem ls_nil : LSs X Wx [] wNext := PSs.imp pss_nil fun D σ H ⟨τ, W, Dw, rs, rp, h, ud, ux⟩ => ud.nx _ _ ⟨τ, W, .refl _ _, rs, rp, h⟩
theorem ls_cons (h1 : LS X Wx st ts) (h2 : LSs X Wx rest us) : LSs X Wx (st :: rest) (wSeq ts us) := by
  refine PSs.imp (pss_cons h1 h2) ?_
  rintro D σ H ⟨τ, W, Dw, rs, rp, h, ud, ux⟩
  refine ⟨τ, W, { Dw with nx := us Dw }, rs, rp, h, ⟨fun σ' H' ⟨τ', W', g, rs', rp', q⟩ => ?_, ud.rt, ud.bk, ud.ct⟩, ux⟩
  exact ⟨τ', W', Dw, rs', rp', q, ud.grow g, ux.grow g⟩
theorem ls_one (h1 : LS X Wx st ts) : LSs X Wx [st] ts := pss_one h1
theorem s_pass : LS X Wx (.Pass pos) wNext := PS.imp ps_pass fun D σ H ⟨τ, W, Dw, rs, rp, h, ud, ux⟩ => ud.nx _ _ ⟨τ, W, .refl _ _, rs, rp, h⟩
def wBreak : TSw := fun D τ W => D.bk τ W
def wCont : TSw := fun D τ W => D.ct τ W
theorem s_break : LS X Wx (.Break pos) wBreak := PS.imp ps_break fun D σ H ⟨τ, W, Dw, rs, rp, h, ud, ux⟩ => ud.bk _ _ ⟨τ, W, .refl _ _, rs, rp, h⟩
theorem s_continue : LS X Wx (.Continue pos) wCont := PS.imp ps_continue fun D σ H ⟨τ, W, Dw, rs, rp, h, ud, ux⟩ => ud.ct _ _ ⟨τ, W, .refl _ _, rs, rp, h⟩
def wRet (te : TEw) : TSw := fun D τ W => te τ W D.rt D.ex
theorem s_ret (he : LE X Wx e te) : LS X Wx (.Return (some e) pos) (wRet te) := PS.imp (ps_ret he) fun D σ H ⟨τ, W, Dw, rs, rp, h, ud, ux⟩ => ⟨τ, W, Dw.rt, Dw.ex, rs, rp, h, ud.rt, ux⟩
def wDrop (te : TEw) : TSw := fun D τ W => te τ W (fun _ W1 => D.nx τ W1) D.ex
theorem s_expr (he : LE X Wx e te) (hs : swapsWith e none pos.line X.env = pure false := by rfl) : LS X Wx (.Expr e pos) (wDrop te) := by
  refine PS.imp (ps_expr he hs) ?_
  rintro D σ H ⟨τ, W, Dw, rs, rp, h, ud, ux⟩
  exact lowE.go rs rp h (fun t W1 v H1 g r1 p1 h1 => ud.nx _ _ ⟨τ, W1, g, rs.grow g, p1, h1⟩) ux
def wIfS (tA : TTw) (t u : TSw) : TSw := fun D τ W => tA τ W (fun k W1 => if k = true then t D τ W1 else u D τ W1) D.ex
theorem s_if {sa sb : List Stmt} (hc : LT X Wx c tA) (ha : LSs X Wx sa ts) (hb : LSs X Wx sb us) : LS X Wx (.If c sa sb pos) (wIfS tA ts us) := by
  refine PS.imp (ps_if hc ha hb) ?_
  rintro D σ H ⟨τ, W, Dw, rs, rp, h, ud, ux⟩
  refine lowT.go rs rp h (fun k W1 H1 g p1 h1 => ?_) ux
  cases k with
  | true =>
    rw [if_pos rfl] at h1 ⊢
    exact ⟨τ, W1, Dw, rs.grow g, p1, h1, ud.grow g, ux.grow g⟩
  | false =>
    rw [if_neg Bool.false_ne_true] at h1 ⊢
    exact ⟨τ, W1, Dw, rs.grow g, p1, h1, ud.grow g, ux.grow g⟩
/-- an assignment to names -/
def wAsg (te : TEw) (g : Tgt) : TSw := fun D τ W => te τ W (fun x W1 => match setG g x τ with
  | some τ' => D.nx τ' W1
  | none => False) D.ex
theorem asg_low {g : Tgt} {D : Ends} {σ : L2.St} {H : Hp} (h : lowS X.K Wx (wAsg te g) D σ H) : lowE X.K Wx te σ H fun v H1 => gV X.K g v σ H1 D.nx := by
  obtain ⟨τ, W, Dw, rs, rp, h, ud, ux⟩ := h
  refine lowE.go rs rp h (fun x W1 v H1 g' r1 p1 h1 => ?_) ux
  split at h1
  · rename_i τ' e
    exact setG_ok g r1 (rs.grow g') e fun σ' rs' _ => ud.nx _ _ ⟨τ', W1, g', rs', p1, h1⟩
  · exact h1.elim
theorem s_set (i : Nat) {x : Str} {pos' : Pos} (hN : X.N.Nodup) (he : LE X Wx e te) (hi : X.N[i]? = some x := by rfl) (hx : Loc X.env.scope x := by first | exact Or.inl rfl | exact Or.inr rfl) (hs : swapsWith e (some (.Name x pos')) pos.line X.env = pure false := by rfl)
    (hf : X.fn x = true ∨ X.env.scope.names.lookup x = some .local := by first | exact .inl rfl | exact .inr rfl) : LS X Wx (.Assign [.Name x pos'] e pos) (wAsg te (.name i)) := by
  refine PS.imp (ps_set hN hi hx he hs hf) fun D σ H h => ?_
  have q := asg_low h
  simp only [gV] at q
  exact q
theorem s_asg {tg : Expr} {g : Tgt} (he : LE X Wx e te) (hg : PG X tg (gV X.K g)) (hs : swapsWithSole [tg] e pos.line X.env = pure false := by rfl) (hw : swappedStores [tg] e X.env = pure none := by rfl)
    (h1 : (assignEach [tg] X.env).map (·.2) = [assign tg X.env] := by rfl) : LS X Wx (.Assign [tg] e pos) (wAsg te g) :=
  PS.imp (ps_asg he hg hs hw h1) fun D σ H h => asg_low h

/-! ### what is walked -/
/-- the iterator gives the items, as long as chk holds -/
structure Dlv (K : PySem.W.Frag) (J : It) (items : List T) (chk : Hw → Prop) (H0 : Hp) : Prop where
  go : ∀ i H W, Grow K H0 H → Rep K H W → chk W → i < items.length → J.go i H
  stop : ∀ i H W, Grow K H0 H → Rep K H W → chk W → items.length ≤ i → J.stop i H
  yld : ∀ i H W x H', Grow K H0 H → Rep K H W → chk W → i < items.length → J.yld i H x H' → ∃ t, items[i]? = some t ∧ RelT K H' t x ∧ Grow K H H' ∧ Rep K H' W
abbrev Rw := List T → (Hw → Prop) → Hw → Prop
abbrev TIw := Sw → Hw → Rw → Xw → Prop
def lowI (K : PySem.W.Frag) (Wx : WX) (t : TIw) : TI := fun σ H R => ∃ τ W Rr E, RelS K H τ σ ∧ Rep K H W ∧ t τ W Rr E ∧ (∀ J items chk H' W', Grow K H H' → Dlv K J items chk H' → Rep K H' W' → Rr items chk W' → R J H') ∧ UpX K H E Wx
abbrev LI (X : Cx) (Wx : WX) (tg e : Expr) (t : TIw) : Prop := PI X tg e (lowI X.K Wx t)
/-- an iterator by value -/
def PIV (X : Cx) (tg : Expr) (r : V → Hp → (It → Hp → Prop) → Prop) : Prop := ∀ (pins : List (Addr × Obj)) (s : Shared) (σ : L2.St) (H : Hp) (x : V) (v : Value) (R : It → Hp → Prop), Inv X pins σ H s → RelV x v → r x H R → wpAny (model X.prog X.w) X.A (pyIter v) (PIE X pins σ tg R) X.xe s
theorem piv_or {tg : Expr} {r r' : V → Hp → (It → Hp → Prop) → Prop} (h : PIV X tg r) (h' : PIV X tg r') : PIV X tg (fun x H R => r x H R ∨ r' x H R) := fun pins s σ H x v R I rx q => q.elim (h pins s σ H x v R I rx) (h' pins s σ H x v R I rx)
theorem pi_piv {tg e : Expr} {te : TE} {r : V → Hp → (It → Hp → Prop) → Prop} (he : PE X e te) (h : PIV X tg r) : PI X tg e (fun σ H R => te σ H fun x H1 => r x H1 R) :=
  ⟨fun pins s σ H R I q => thn (he.run pins s σ H _ I q) fun v s1 ⟨x, H1, I1, r1, q1⟩ => h pins s1 σ H1 x v R I1 r1 q1⟩
theorem piv_list {tg : Expr} : PIV X tg (fun x H R => ∃ a, x = .ref a ∧ (∃ xs, SqL X.K H a xs) ∧ R (Itl X.K a) H) := by
  intro pins s1 σ H1 x v R I1 r1 q1
  obtain ⟨a, e, ⟨xs, hq⟩, q⟩ := q1
  subst e
  cases r1
  obtain ⟨its, rv, p, hz⟩ := I1.list hq
  refine wpAny_pyIter_list p.isList ?_
  refine ⟨s1.heap.objs.size, [s1.heap.objs.size], _, _, H1, rfl, I1.kept (t' := s1.toks) fun b o e => Heap.get?_push_of_some _ e, turn_list a _, ⟨_, Heap.get?_push_size _ rfl, rfl, rfl⟩, fun b hb => ?_, q⟩
  have e : b = s1.heap.objs.size := by simpa using hb
  subst e
  exact I1.fpOk (Nat.le_refl _) (I1.hok.fresh (Nat.le_refl _))
theorem piv_tup {tg : Expr} : PIV X tg (fun x H R => ∃ a, x = .ref a ∧ (∃ xs, SqT X.K H a xs) ∧ R (Itt X.K a) H) := by
  intro pins s1 σ H1 x v R I1 r1 q1
  obtain ⟨a, e, ⟨xs, hq⟩, q⟩ := q1
  subst e
  cases r1
  obtain ⟨its, rv, p, hz⟩ := I1.tuple hq
  refine wpAny_pyIter_tuple (show s1.heap.IsTuple a its.toArray from p) ?_
  refine ⟨s1.heap.objs.size, [s1.heap.objs.size], _, _, H1, rfl, I1.kept (t' := s1.toks) fun b o e => Heap.get?_push_of_some _ e, turn_tuple a _, ⟨_, Heap.get?_push_size _ rfl, rfl, rfl⟩, fun b hb => ?_, q⟩
  have e : b = s1.heap.objs.size := by simpa using hb
  subst e
  exact I1.fpOk (Nat.le_refl _) (I1.hok.fresh (Nat.le_refl _))
theorem piv_str {tg : Expr} : PIV X tg (fun v H R => ∃ x, v = .str x ∧ R (Its x) H) := by
  intro pins s1 σ H1 y v R I1 r1 q1
  obtain ⟨x, ex, q⟩ := q1
  subst ex
  obtain ⟨t, rfl⟩ := r1
  cases ha : x.cps.all (· < 128)
  · exact wpAny_pyIter_wide ha (pi_one (tk := s1.toks) I1 _ (turn_str _ x t "str_iterator" (.inr rfl)) ⟨_, Heap.get?_push_size _ rfl, rfl, rfl⟩ q)
  · exact wpAny_pyIter_ascii ha (pi_one (tk := s1.toks) I1 _ (turn_str _ x t "str_ascii_iterator" (.inl rfl)) ⟨_, Heap.get?_push_size _ rfl, rfl, rfl⟩ q)
/-- the signs of a text -/
def signsT (z : Str) : List T := z.cps.toList.map fun c => .str ⟨#[c]⟩
theorem dlv_list {K : PySem.W.Frag} {H : Hp} {a : Addr} {xs : List T} : Dlv K (Itl K a) xs (fun W => W a = some (.lst xs)) H where
  go := fun i H W g rp hc hi => by
    obtain ⟨vs, e, r⟩ := rp.lst hc
    obtain ⟨v, e2, _⟩ := r.get (List.getElem?_eq_getElem hi)
    exact ⟨vs, v, SqL.of e, e2⟩
  stop := fun i H W g rp hc hi => by
    obtain ⟨vs, e, r⟩ := rp.lst hc
    exact ⟨vs, SqL.of e, by rw [r.len]; exact hi⟩
  yld := fun i H W x H' g rp hc hi ⟨e, q⟩ => by
    subst e
    obtain ⟨vs, e, r⟩ := rp.lst hc
    obtain ⟨v, e2, rv⟩ := r.get (List.getElem?_eq_getElem hi)
    have e3 := q vs (SqL.of e)
    rw [e2] at e3; cases e3
    exact ⟨_, List.getElem?_eq_getElem hi, rv, .refl _ _, rp⟩
theorem dlv_rol {K : PySem.W.Frag} {H : Hp} {a : Addr} {xs : List T} {vs : List V} (h : RoL K H a vs) (r : RelTs K H xs vs) : Dlv K (Itl K a) xs (fun _ => True) H where
  go := fun i H' W g rp hc hi => by
    obtain ⟨v, e2, _⟩ := r.get (List.getElem?_eq_getElem hi)
    exact ⟨vs, v, (g.roL h).sq, e2⟩
  stop := fun i H' W g rp hc hi => ⟨vs, (g.roL h).sq, by rw [r.len]; exact hi⟩
  yld := fun i H' W x H'' g rp hc hi ⟨e, q⟩ => by
    subst e
    obtain ⟨v, e2, rv⟩ := r.get (List.getElem?_eq_getElem hi)
    have e3 := q vs (g.roL h).sq
    rw [e2] at e3; cases e3
    exact ⟨_, List.getElem?_eq_getElem hi, rv.grow g, .refl _ _, rp⟩
theorem dlv_tup {K : PySem.W.Frag} {H : Hp} {a : Addr} {xs : List T} {vs : List V} (h : SqT K H a vs) (r : RelTs K H xs vs) : Dlv K (Itt K a) xs (fun _ => True) H where
  go := fun i H' W g rp hc hi => by
    obtain ⟨v, e2, _⟩ := r.get (List.getElem?_eq_getElem hi)
    exact ⟨vs, v, g.sqT h, e2⟩
  stop := fun i H' W g rp hc hi => ⟨vs, g.sqT h, by rw [r.len]; exact hi⟩
  yld := fun i H' W x H'' g rp hc hi ⟨e, q⟩ => by
    subst e
    obtain ⟨v, e2, rv⟩ := r.get (List.getElem?_eq_getElem hi)
    have e3 := q vs (g.sqT h)
    rw [e2] at e3; cases e3
    exact ⟨_, List.getElem?_eq_getElem hi, rv.grow g, .refl _ _, rp⟩
theorem dlv_str {K : PySem.W.Frag} {H : Hp} {x : Str} : Dlv K (Its x) (signsT x) (fun _ => True) H where
  go := fun i H' W g rp hc hi => by
    have q : i < x.cps.size := by unfold signsT at hi; simpa using hi
    exact q
  stop := fun i H' W g rp hc hi => by
    have q : x.cps.size ≤ i := by unfold signsT at hi; simpa using hi
    exact q
  yld := fun i H' W v H'' g rp hc hi ⟨e, c, ec, ev⟩ => by
    subst e; subst ev
    refine ⟨.str ⟨#[c]⟩, ?_, rel_str, .refl _ _, rp⟩
    unfold signsT
    rw [List.getElem?_map]
    rw [show x.cps.toList[i]? = some c by simpa using ec]
    rfl
theorem dlv_range {K : PySem.W.Frag} {H : Hp} {lo : Int} {n : Nat} : Dlv K (Itr lo n) ((List.range n).map fun i => T.int (lo + (i : Nat))) (fun _ => True) H where
  go := fun i H' W g rp hc hi => by simpa [Itr] using hi
  stop := fun i H' W g rp hc hi => by simpa [Itr] using hi
  yld := fun i H' W v H'' g rp hc hi ⟨e, ev⟩ => by
    subst e; subst ev
    refine ⟨.int (lo + (i : Nat)), ?_, rel_int, .refl _ _, rp⟩
    have hi' : i < n := by simpa using hi
    rw [List.getElem?_map, List.getElem?_range hi']
    rfl
/-- a list, a tuple or a text -/
def wSeqI (te : TEw) : TIw := fun τ W R E => te τ W (fun x W1 => match x with
  | .tup xs => R xs (fun _ => True) W1
  | .rol xs => R xs (fun _ => True) W1
  | .str z => R (signsT z) (fun _ => True) W1
  | .ref a => match W1 a with
    | some (.lst xs) => R xs (fun W => W a = some (.lst xs)) W1
    | _ => False
  | _ => False) E
theorem i_seq {tg : Expr} (he : LE X Wx e te) : LI X Wx tg e (wSeqI te) := by
  refine PI.imp (pi_piv he (piv_or (piv_or piv_list piv_tup) piv_str)) ?_
  rintro σ H R ⟨τ, W, Rr, E, rs, rp, h, up, ux⟩
  refine lowE.go rs rp h (fun x W1 v H1 g r1 p1 h1 => ?_) ux
  split at h1
  · simp only [RelT] at r1
    obtain ⟨a, vs, rfl, s, r⟩ := r1
    exact .inl (.inr ⟨a, rfl, ⟨vs, SqT.of s⟩, up _ _ _ _ _ g (dlv_tup (SqT.of s) r) p1 h1⟩)
  · simp only [RelT] at r1
    obtain ⟨a, vs, rfl, s, r⟩ := r1
    exact .inl (.inl ⟨a, rfl, ⟨vs, s.sq⟩, up _ _ _ _ _ g (dlv_rol s r) p1 h1⟩)
  · simp only [RelT] at r1; subst r1
    exact .inr ⟨_, rfl, up _ _ _ _ _ g dlv_str p1 h1⟩
  · simp only [RelT] at r1; subst r1
    split at h1
    · rename_i e1
      obtain ⟨vs, gg, r⟩ := p1.lst e1
      exact .inl (.inl ⟨_, rfl, ⟨vs, SqL.of gg⟩, up _ _ _ _ _ g dlv_list p1 h1⟩)
    · exact h1.elim
  · exact h1.elim
def rangeT (lo hi : Int) : List T := (List.range (hi - lo).toNat).map fun i => T.int (lo + (i : Nat))
def wRng1 (t : TAw) : TIw := fun τ W R E => t τ W (fun xs W1 => match xs with
  | [.int j] => (-(2 ^ 62) ≤ j ∧ j < 2 ^ 62) ∧ R (rangeT 0 j) (fun _ => True) W1
  | _ => False) E
theorem i_range1 {tg : Expr} {p : Pos} (hm : X.mg "range" = none) (ha : LA X Wx [a] t) (hg : Gl X "range" := by rfl) (hs : starEach [a] X.env = [(false, eval a X.env)] := by rfl) : LI X Wx tg (.Call (.Name "range" p) [a] [] pos) (wRng1 t) := by
  refine PI.imp (pi_range1 hg hm ha hs) ?_
  rintro σ H R ⟨τ, W, Rr, E, rs, rp, h, up, ux⟩
  refine lowA.go rs rp h (fun xs W1 v H1 g r1 p1 h1 => ?_) ux
  split at h1
  · rename_i j
    obtain ⟨v', r, rfl, q1, q2⟩ := r1.inv_cons
    simp only [RelT] at q1; subst q1
    rw [q2.inv_nil]
    refine ⟨j, rfl, h1.1.1, h1.1.2, up _ _ _ _ _ g ?_ p1 h1.2⟩
    have q := dlv_range (K := X.K) (H := H1) (lo := 0) (n := j.toNat)
    unfold rangeT
    rw [Int.sub_zero]
    exact q
  · exact h1.elim
def wRng2 (t : TAw) : TIw := fun τ W R E => t τ W (fun xs W1 => match xs with
  | [.int i, .int j] => (-(2 ^ 62) ≤ i ∧ i < 2 ^ 62 ∧ -(2 ^ 62) ≤ j ∧ j < 2 ^ 62) ∧ R (rangeT i j) (fun _ => True) W1
  | _ => False) E
theorem i_range2 {tg : Expr} {p : Pos} (hm : X.mg "range" = none) (ha : LA X Wx [a, b] t) (hg : Gl X "range" := by rfl) (hs : starEach [a, b] X.env = [(false, eval a X.env), (false, eval b X.env)] := by rfl) (hs2 : starEach [b] X.env = [(false, eval b X.env)] := by rfl) :
    LI X Wx tg (.Call (.Name "range" p) [a, b] [] pos) (wRng2 t) := by
  refine PI.imp (pi_range2 hg hm ha hs hs2) ?_
  rintro σ H R ⟨τ, W, Rr, E, rs, rp, h, up, ux⟩
  refine lowA.go rs rp h (fun xs W1 v H1 g r1 p1 h1 => ?_) ux
  split at h1
  · rename_i i j
    obtain ⟨v', r, rfl, q1, q2⟩ := r1.inv_cons
    obtain ⟨v'', r', rfl, q3, q4⟩ := q2.inv_cons
    simp only [RelT] at q1 q3; subst q1; subst q3
    rw [q4.inv_nil]
    exact ⟨i, j, rfl, h1.1, up _ _ _ _ _ g dlv_range p1 h1.2⟩
  · exact h1.elim

/-! ### for, while -/
def wForGo (g : Tgt) (tb : TSw) (chk : Hw → Prop) : List T → TSw
  | [], D, τ, W => chk W ∧ D.nx τ W
  | x :: r, D, τ, W => chk W ∧ match setG g x τ with
    | some τ' => tb { D with nx := wForGo g tb chk r D, ct := wForGo g tb chk r D, bk := D.nx } τ' W
    | none => False
def wFor (wi : TIw) (g : Tgt) (tb : TSw) : TSw := fun D τ W => wi τ W (fun items chk W1 => wForGo g tb chk items D τ W1) D.ex
theorem s_for {tg iter : Expr} {body : List Stmt} {wi : TIw} {g : Tgt} {tb : TSw} (hp : PassesOwn (model X.prog X.w) X.A X.env X.xe) (hc : X.calm = true) (hi : LI X Wx tg iter wi) (hg : PG X tg (gV X.K g)) (hb : LSs X Wx body tb)
    (hs : ∀ x, foldedSetIterable iter X.env x = pure x := by intro _; rfl) : LS X Wx (.For tg iter body [] pos) (wFor wi g tb) := by
  refine PS.imp (ps_for hp hc hi hg hb hs) ?_
  rintro D σ H ⟨τ, W, Dw, rs, rp, h, ud, ux⟩
  refine ⟨τ, W, _, Dw.ex, rs, rp, h, fun J items chk H1 W1 g1 dl p1 h1 => ?_, ux⟩
  refine ⟨fun i m σ' H' => ∃ τ' W', Grow X.K H1 H' ∧ RelS X.K H' τ' σ' ∧ Rep X.K H' W' ∧ m = items.length - i ∧ i ≤ items.length ∧ wForGo g tb chk (items.drop i) Dw τ' W', ⟨_, τ, W1, .refl _ _, rs.grow g1, p1, rfl, Nat.zero_le _, h1⟩, ?_⟩
  rintro i m σ' H' ⟨τ', W', g', rs', p', rfl, hle, hw⟩
  by_cases hlt : i < items.length
  · rw [List.drop_eq_getElem_cons hlt] at hw
    obtain ⟨hck, hw⟩ := hw
    refine .inr ⟨dl.go i H' W' g' p' hck hlt, fun σ2 H2 => ∃ τ2 W2, Grow X.K H1 H2 ∧ RelS X.K H2 τ2 σ2 ∧ Rep X.K H2 W2 ∧ wForGo g tb chk (items.drop (i + 1)) Dw τ2 W2, fun σ2 H2 ⟨τ2, W2, g2, rs2, p2, h2⟩ => ⟨items.length - (i + 1), by omega, τ2, W2, g2, rs2, p2, rfl, hlt, h2⟩, fun x H2 hy => ?_⟩
    obtain ⟨t, et, rt, g2, p2⟩ := dl.yld i H' W' x H2 g' p' hck hlt hy
    rw [List.getElem?_eq_getElem hlt] at et
    cases et
    split at hw
    · rename_i τ3 e3
      refine setG_ok g rt (rs'.grow g2) e3 fun σ3 rs3 _ => ?_
      refine ⟨τ3, W', _, rs3, p2, hw, ⟨?_, (ud.grow (g1.trans (g'.trans g2))).rt, ?_, ?_⟩, ux.grow (g1.trans (g'.trans g2))⟩
      · rintro σ4 H4 ⟨τ4, W4, g4, rs4, p4, h4⟩
        exact ⟨τ4, W4, (g'.trans g2).trans g4, rs4, p4, h4⟩
      · rintro σ4 H4 ⟨τ4, W4, g4, rs4, p4, h4⟩
        exact ud.nx _ _ ⟨τ4, W4, (g1.trans (g'.trans g2)).trans g4, rs4, p4, h4⟩
      · rintro σ4 H4 ⟨τ4, W4, g4, rs4, p4, h4⟩
        exact ⟨τ4, W4, (g'.trans g2).trans g4, rs4, p4, h4⟩
    · exact hw.elim
  · have e : items.drop i = [] := List.drop_eq_nil_of_le (Nat.le_of_not_lt hlt)
    rw [e] at hw
    exact .inl ⟨dl.stop i H' W' g' p' hw.1 (Nat.le_of_not_lt hlt), ud.nx _ _ ⟨τ', W', g1.trans g', rs', p', hw.2⟩⟩
def wWhileN (c : TTw) (tb : TSw) : Nat → TSw
  | 0, _, _, _ => False
  | n + 1, D, τ, W => c τ W (fun b W1 => if b = true then tb { D with nx := wWhileN c tb n D, ct := wWhileN c tb n D, bk := D.nx } τ W1 else D.nx τ W1) D.ex
def wWhile (c : TTw) (tb : TSw) : TSw := fun D τ W => ∃ n, wWhileN c tb n D τ W
theorem s_while {c : Expr} {body : List Stmt} {tc : TTw} {tb : TSw} (hp : PassesOwn (model X.prog X.w) X.A X.env X.xe) (hc : LT X Wx c tc) (hb : LSs X Wx body tb) : LS X Wx (.While c body [] pos) (wWhile tc tb) := by
  refine PS.imp (ps_while hp hc hb) ?_
  rintro D σ H ⟨τ, W, Dw, rs, rp, ⟨n, h⟩, ud, ux⟩
  refine ⟨fun m σ' H' => ∃ τ' W', Grow X.K H H' ∧ RelS X.K H' τ' σ' ∧ Rep X.K H' W' ∧ wWhileN tc tb m Dw τ' W', ⟨n, τ, W, .refl _ _, rs, rp, h⟩, ?_⟩
  rintro m σ' H' ⟨τ', W', g', rs', p', hw⟩
  cases m with
  | zero => exact hw.elim
  | succ m =>
    refine lowT.go rs' p' hw (fun b W1 H1 g1 p1 h1 => ?_) (ux.grow g')
    cases b with
    | false =>
      rw [if_neg Bool.false_ne_true] at h1 ⊢
      exact ud.nx _ _ ⟨τ', W1, g'.trans g1, rs'.grow g1, p1, h1⟩
    | true =>
      rw [if_pos rfl] at h1 ⊢
      refine ⟨fun σ2 H2 => ∃ τ2 W2, Grow X.K H H2 ∧ RelS X.K H2 τ2 σ2 ∧ Rep X.K H2 W2 ∧ wWhileN tc tb m Dw τ2 W2, fun σ2 H2 q => ⟨m, Nat.lt_succ_self m, q⟩, ?_⟩
      refine ⟨τ', W1, _, rs'.grow g1, p1, h1, ⟨?_, (ud.grow (g'.trans g1)).rt, ?_, ?_⟩, ux.grow (g'.trans g1)⟩
      · rintro σ4 H4 ⟨τ4, W4, g4, rs4, p4, h4⟩
        exact ⟨τ4, W4, (g'.trans g1).trans g4, rs4, p4, h4⟩
      · rintro σ4 H4 ⟨τ4, W4, g4, rs4, p4, h4⟩
        exact ud.nx _ _ ⟨τ4, W4, (g'.trans g1).trans g4, rs4, p4, h4⟩
      · rintro σ4 H4 ⟨τ4, W4, g4, rs4, p4, h4⟩
        exact ⟨τ4, W4, (g'.trans g1).trans g4, rs4, p4, h4⟩
end
end TL

set_option Elab.async false
set_option linter.all false
set_option maxRecDepth 100000
set_option maxHeartbeats 4000000
/-! TL: comprehensions -/
namespace TL
open PySem PySem.Spec PyProof.Rows L2
abbrev W0x : WX := fun _ _ _ _ => False
abbrev E0x : Xw := fun _ _ _ _ => False
theorem upx0 {K : PySem.W.Frag} {H : Hp} {Wx : WX} : UpX K H E0x Wx := fun _ _ _ _ _ _ _ _ _ _ _ _ _ h => h.elim
def wipeW (τ : Sw) : List Nat → Sw
  | [] => τ
  | v :: vs => (wipeW τ vs).set v none
theorem RelS.wipe {K : PySem.W.Frag} {H : Hp} {τ : Sw} {σ : L2.St} (r : RelS K H τ σ) : ∀ vs, RelS K H (wipeW τ vs) (L2.wipe σ vs)
  | [] => r
  | v :: vs => (RelS.wipe r vs).none v
theorem wipe_wipe {σ : L2.St} : ∀ vs : List Nat, L2.wipe (L2.wipe σ vs) vs = L2.wipe σ vs := by
  have go : ∀ (us vs : List Nat), (∀ i ∈ us, i ∈ vs) → ∀ σ : L2.St, L2.wipe (L2.wipe σ vs) us = L2.wipe σ vs := by
    intro us
    induction us with
    | nil => intro vs _ σ; rfl
    | cons k us ih =>
      intro vs h σ
      show (L2.wipe (L2.wipe σ vs) us).set k none = L2.wipe σ vs
      rw [ih vs (fun i hi => h i (List.mem_cons_of_mem _ hi)) σ]
      have hk := h k List.mem_cons_self
      clear ih h
      induction vs with
      | nil => cases hk
      | cons j vs ihv =>
        show ((L2.wipe σ vs).set j none).set k none = (L2.wipe σ vs).set j none
        by_cases e : k = j
        · subst e; rw [List.set_set]
        · rw [List.set_comm _ _ (fun z => e z.symm)]
          have hk' : k ∈ vs := by
            cases hk with
            | head => exact absurd rfl e
            | tail _ h => exact h
          have q := ihv hk'
          rw [q]
  exact fun vs => go vs vs (fun _ h => h) σ
/-- the tests of a comprehension -/
def wYes : TTw := fun _ W Q _ => Q true W
/-- the turns: the list at p grows -/
def wLcGo (g : Tgt) (tt : TTw) (te : TEw) (chk : Hw → Prop) (p : Addr) (τ0 : Sw) (Q : Hw → Prop) : List T → List T → Hw → Prop
  | [], acc, W => chk W ∧ W p = some (.lst acc) ∧ Q W
  | x :: r, acc, W => chk W ∧ match setG g x τ0 with
    | some τ' => tt τ' W (fun b W2 => if b = true then te τ' W2 (fun y W3 => W3 p = some (.lst acc) ∧ acc.length < sizeLine ∧ wLcGo g tt te chk p τ0 Q r (acc ++ [y]) (updw W3 p (.lst (acc ++ [y])))) E0x else wLcGo g tt te chk p τ0 Q r acc W2) E0x
    | none => False
def wLc (wi : TIw) (g : Tgt) (tt : TTw) (te : TEw) (vs : List Nat) : TEw := fun τ W Q E => wi τ W (fun items chk W1 => ∀ p, W1 p = none → wLcGo g tt te chk p (wipeW τ vs) (fun W' => Q (.ref p) W') items [] (updw W1 p (.lst []))) E
section
variable {X : Cx} {Wx : WX} {pos : Pos}
theorem lc_low {wi : TIw} {g : Tgt} {tt : TTw} {te : TEw} {vs : List Nat} (hv : ∀ i ∈ slotsG g, i ∈ vs) {σ : L2.St} {H : Hp} {Q : VK} (h : lowE X.K Wx (wLc wi g tt te vs) σ H Q) :
    tLc (lowI X.K Wx wi) (gV X.K g) (lowT X.K W0x tt) (lowE X.K W0x te) vs σ H Q := by
  obtain ⟨τ, W, R, E, rs, rp, h, up, ux⟩ := h
  refine ⟨τ, W, _, E, rs, rp, h, fun J items chk H1 W1 g1 dl p1 h1 => ?_, ux⟩
  intro D nD
  have h2 := h1 D (p1.free nD)
  refine ⟨fun i m H' => ∃ acc W', Grow X.K H1 H' ∧ Rep X.K H' W' ∧ (∀ a o u, H' a = some (.frz o u) ∨ True → True) ∧ m = items.length - i ∧ i ≤ items.length ∧ wLcGo g tt te chk D (wipeW τ vs) (fun W' => R (.ref D) W') (items.drop i) acc W',
    ⟨_, [], _, .new nD, p1.upd (ow := .lst []) (.new nD) ⟨[], upd_same, .nil⟩, fun _ _ _ _ => trivial, rfl, Nat.zero_le _, h2⟩, ?_⟩
  rintro i m H' ⟨acc, W', g', p', -, rfl, hle, hw⟩
  have rs' : RelS X.K H' (wipeW τ vs) (L2.wipe σ vs) := (rs.wipe vs).grow (g1.trans g')
  by_cases hlt : i < items.length
  · rw [List.drop_eq_getElem_cons hlt] at hw
    obtain ⟨hck, hw⟩ := hw
    refine .inr ⟨dl.go i H' W' g' p' hck hlt, fun H2 => ∃ acc W2, Grow X.K H1 H2 ∧ Rep X.K H2 W2 ∧ wLcGo g tt te chk D (wipeW τ vs) (fun W' => R (.ref D) W') (items.drop (i + 1)) acc W2, fun H2 ⟨acc2, W2, g2, p2, h2⟩ => ⟨items.length - (i + 1), by omega, acc2, W2, g2, p2, fun _ _ _ _ => trivial, rfl, hlt, h2⟩, fun x H2 hy => ?_⟩
    obtain ⟨t, et, rt, g2, p2⟩ := dl.yld i H' W' x H2 g' p' hck hlt hy
    rw [List.getElem?_eq_getElem hlt] at et
    cases et
    split at hw
    · rename_i τ3 e3
      refine setG_ok g rt (rs'.grow g2) e3 fun σ3 rs3 hwp => ⟨?_, ?_⟩
      · rw [hwp vs hv, wipe_wipe]
      · refine ⟨τ3, W', _, E0x, rs3, p2, hw, ?_, upx0⟩
        rintro b H3 ⟨W3, g3, p3, h3⟩
        cases b with
        | false =>
          rw [if_neg Bool.false_ne_true] at h3 ⊢
          exact ⟨acc, W3, (g'.trans g2).trans g3, p3, h3⟩
        | true =>
          rw [if_pos rfl] at h3 ⊢
          refine ⟨τ3, W3, _, E0x, rs3.grow g3, p3, h3, ?_, upx0⟩
          rintro y H4 ⟨ty, W4, g4, r4, p4, hD, hlen, h4⟩
          obtain ⟨ws, eD, rD⟩ := p4.lst hD
          refine ⟨ws, eD, by rw [rD.len]; exact hlen, acc ++ [ty], _, ?_, ?_, h4⟩
          · exact ((g'.trans g2).trans (g3.trans g4)).trans (.upd (by rw [eD]; trivial))
          · have gw : Grow X.K H4 (upd H4 D (.lst (ws ++ [y]))) := .upd (by rw [eD]; trivial)
            exact p4.upd (ow := .lst _) gw ⟨_, upd_same, (rD.grow gw).append (.cons (r4.grow gw) .nil)⟩
    · exact hw.elim
  · have e : items.drop i = [] := List.drop_eq_nil_of_le (Nat.le_of_not_lt hlt)
    rw [e] at hw
    exact .inl ⟨dl.stop i H' W' g' p' hw.1 (Nat.le_of_not_lt hlt), up _ _ ⟨.ref D, W', g1.trans g', rel_ref, p', hw.2.2⟩⟩
abbrev LTs (X : Cx) (Wx : WX) (ifs : List Expr) (t : TTw) : Prop := PTs X ifs (lowT X.K Wx t)
theorem lts_nil : LTs X Wx [] wYes := ⟨fun pins s σ H Q I ⟨τ, W, R, E, rs, rp, h, up, ux⟩ => pts_nil.run pins s σ H Q I (up _ _ ⟨W, .refl _ _, rp, h⟩)⟩
theorem lts_one {c : Expr} {t : TTw} (h : LT X Wx c t) : LTs X Wx [c] t := pts_one h
theorem w_lc {elt tg iter : Expr} {ifs : List Expr} {scope : Scope} {own : List (Str × Nat)} {wi : TIw} {g : Tgt} {tt : TTw} {te : TEw} (hc : X.calm = true) (hN : X.N.Nodup) (hi : LI X Wx tg iter wi) (ok : BlkOk X.N X.env.scope scope own)
    (hg : ∀ (s : Shared) (H : Hp) (C : Addr) (cl : List (Str × Addr)) (fp : List Addr), PG (X.blk s H scope (compEnvC scope cl C X.env) fp) tg (gV X.K g))
    (ht : ∀ (s : Shared) (H : Hp) (C : Addr) (cl : List (Str × Addr)) (fp : List Addr), LTs (X.blk s H scope (compEnvC scope cl C X.env) fp) W0x ifs tt)
    (he : ∀ (s : Shared) (H : Hp) (C : Addr) (cl : List (Str × Addr)) (fp : List Addr), LE (X.blk s H scope (compEnvC scope cl C X.env) fp) W0x elt te)
    (hv : ∀ i ∈ slotsG g, i ∈ own.map (·.2) := by decide) (hs : ∀ x, foldedSetIterable iter X.env x = pure x := by intro _; rfl) :
    LE X Wx (.ListComp elt [⟨tg, iter, ifs, 0⟩] scope pos) (wLc wi g tt te (own.map (·.2))) :=
  PE.imp (pe_lc (tt := lowT X.K W0x tt) (te := lowE X.K W0x te) hc hN hi ok hg ht he hs) fun σ H Q h => lc_low hv h
/-- name = [..], the name a local -/
theorem s_setLc (i : Nat) {y : Str} {py spos : Pos} {elt tg iter : Expr} {ifs : List Expr} {scope : Scope} {own : List (Str × Nat)} {wi : TIw} {g : Tgt} {tt : TTw} {te : TEw} (hc : X.calm = true) (hN : X.N.Nodup) (hi : LI X Wx tg iter wi) (ok : BlkOk X.N X.env.scope scope own)
    (hg : ∀ (s : Shared) (H : Hp) (C : Addr) (cl : List (Str × Addr)) (fp : List Addr), PG (X.blk s H scope (compEnvC scope cl C X.env) fp) tg (gV X.K g))
    (ht : ∀ (s : Shared) (H : Hp) (C : Addr) (cl : List (Str × Addr)) (fp : List Addr), LTs (X.blk s H scope (compEnvC scope cl C X.env) fp) W0x ifs tt)
    (he : ∀ (s : Shared) (H : Hp) (C : Addr) (cl : List (Str × Addr)) (fp : List Addr), LE (X.blk s H scope (compEnvC scope cl C X.env) fp) W0x elt te)
    (hy : X.N[i]? = some y := by rfl) (hyl : X.env.scope.names.lookup y = some .local := by rfl) (hsw : swapsWith (.ListComp elt [⟨tg, iter, ifs, 0⟩] scope pos) (some (.Name y py)) spos.line X.env = pure true := by exact sw_true rfl rfl rfl (by decide +kernel))
    (hv : ∀ i ∈ slotsG g, i ∈ own.map (·.2) := by decide) (hs : ∀ x, foldedSetIterable iter X.env x = pure x := by intro _; rfl) :
    LS X Wx (.Assign [.Name y py] (.ListComp elt [⟨tg, iter, ifs, 0⟩] scope pos) spos) (wAsg (wLc wi g tt te (own.map (·.2))) (.name i)) := by
  refine PS.imp (ps_setLc (tt := lowT X.K W0x tt) (te := lowE X.K W0x te) hc hN hy hyl hsw hi ok hg ht he hs) fun D σ H h => ?_
  obtain ⟨τ, W, Dw, rs, rp, h, ud, ux⟩ := h
  refine lc_low (Wx := Wx) hv ⟨τ, W, _, Dw.ex, rs, rp, h, fun v H' ⟨t, W', g', r', p', q⟩ => ?_, ux⟩
  simp only [setG] at q
  exact ud.nx _ _ ⟨_, W', g', (rs.grow g').set i r', p', q⟩
end
end TL

set_option Elab.async false
set_option linter.all false
set_option maxRecDepth 100000
set_option maxHeartbeats 4000000
/-! TL: built-ins by values -/
namespace TL
open PySem PySem.Spec PyProof.Rows L2
section
variable {X : Cx} {Wx : WX} {pos : Pos}

/-! ### isinstance -/
def tyName (W : Hw) : T → Option String
  | .non => some "NoneType"
  | .bl _ => some "bool"
  | .int _ => some "int"
  | .str _ => some "str"
  | .tup _ => some "tuple"
  | .rol _ => some "list"
  | .ref a => match W a with
    | some (.lst _) => some "list"
    | some (.dic _) => some "dict"
    | some (.dit _) => some "dict"
    | _ => none
  | .ty _ => none
def subTy (m n : String) : Bool := m == n || (m == "bool" && n == "int")
theorem kit_sub : ∀ m ∈ ["NoneType", "bool", "int", "str", "tuple", "list", "dict"], ∀ n ∈ ["bool", "int", "str", "tuple", "list", "dict"], kitB m n = some (subTy m n) := by decide +kernel
theorem tyName_mem {W : Hw} {t : T} {m : String} (h : tyName W t = some m) : m ∈ ["NoneType", "bool", "int", "str", "tuple", "list", "dict"] := by
  unfold tyName at h
  split at h
  all_goals first
    | (cases h; decide)
    | (split at h <;> first | (cases h; decide) | cases h)
    | cases h
theorem ty_x {K : PySem.W.Frag} {H : Hp} {W : Hw} {t : T} {v : V} {m : String} (rp : Rep K H W) (r : RelT K H t v) (h : tyName W t = some m) : TyX K H v (.type m) := by
  unfold tyName at h
  split at h
  · cases h; simp only [RelT] at r; subst r; exact .base .non
  · cases h; simp only [RelT] at r; subst r; exact .base (.bl _)
  · cases h; simp only [RelT] at r; subst r; exact .base (.int _)
  · cases h; simp only [RelT] at r; subst r; exact .base (.str _)
  · cases h; simp only [RelT] at r
    obtain ⟨a, vs, rfl, e, _⟩ := r
    exact .base (.tup e)
  · cases h; simp only [RelT] at r
    obtain ⟨a, vs, rfl, e, _⟩ := r
    rcases e with ⟨o, e⟩ | ⟨o, its, n, e, c, _⟩
    · exact .base (.frz e)
    · exact .kList e c
  · simp only [RelT] at r; subst r
    split at h
    · rename_i e
      cases h
      obtain ⟨vs, g, _⟩ := rp.lst e
      exact .base (.lst g)
    · rename_i e
      cases h
      obtain ⟨ps, g, _⟩ := rp _ _ e
      exact .base (.dK g)
    · rename_i e
      cases h
      obtain ⟨ps, g, _⟩ := rp _ _ e
      exact .base (.dT g)
    · cases h
  · cases h
def okTys : List String := ["bool", "int", "str", "tuple", "list", "dict"]
def rIsi : List T → Hw → Kw → Prop := fun xs W Q => match xs with
  | [t, .ty n] => n ∈ okTys ∧ match tyName W t with
    | some m => Q (.bl (subTy m n)) W
    | none => False
  | _ => False
theorem ct_isi : CallT X (.builtin "isinstance") rIsi := by
  refine CallR.imp call_isi ?_
  rintro xs H Q ⟨as, W, R, r, rp, h, up⟩
  unfold rIsi at h
  split at h
  · rename_i t n
    obtain ⟨v, q, rfl, r1, r2⟩ := r.inv_cons
    obtain ⟨v2, q2, rfl, r3, r4⟩ := r2.inv_cons
    rw [r4.inv_nil]
    simp only [RelT] at r3; subst r3
    obtain ⟨hn, h⟩ := h
    split at h
    · rename_i m e
      exact ⟨v, .ty n, .type m, .type n, _, rfl, .ty n, ty_x rp r1 e, kit_ty (kit_sub m (tyName_mem e) n hn), up _ _ (up_same rp rel_bl h)⟩
    · exact h.elim
  · exact h.elim

/-! ### len, int, max, min, all, any, ord -/
def lenT (W : Hw) : T → Option Nat
  | .tup xs => some xs.length
  | .rol xs => some xs.length
  | .ref a => match W a with
    | some (.lst xs) => some xs.length
    | _ => none
  | _ => none
def rLen : List T → Hw → Kw → Prop := fun xs W Q => match xs with
  | [.str z] => z.length ≤ sizeLine ∧ Q (.int z.length) W
  | [t] => match lenT W t with
    | some n => Q (.int n) W
    | none => False
  | _ => False
theorem ct_len : CallT X (.builtin "len") rLen := by
  refine CallR.imp call_len ?_
  rintro xs H Q ⟨as, W, R, r, rp, h, up⟩
  unfold rLen at h
  split at h
  · obtain ⟨v, q, rfl, r1, r2⟩ := r.inv_cons
    rw [r2.inv_nil]
    simp only [RelT] at r1; subst r1
    exact ⟨_, _, rfl, ⟨h.1, rfl⟩, up _ _ (up_same rp rel_int h.2)⟩
  · rename_i t _
    obtain ⟨v, q, rfl, r1, r2⟩ := r.inv_cons
    rw [r2.inv_nil]
    split at h
    · rename_i n e
      unfold lenT at e
      split at e
      · cases e; simp only [RelT] at r1
        obtain ⟨a, vs, rfl, g, rr⟩ := r1
        exact ⟨_, _, rfl, .inr ⟨vs, SqT.of g, rr.len.symm⟩, up _ _ (up_same rp rel_int h)⟩
      · cases e; simp only [RelT] at r1
        obtain ⟨a, vs, rfl, g, rr⟩ := r1
        exact ⟨_, _, rfl, .inl ⟨vs, g.sq, rr.len.symm⟩, up _ _ (up_same rp rel_int h)⟩
      · split at e
        · rename_i e2
          cases e; simp only [RelT] at r1; subst r1
          obtain ⟨vs, g, rr⟩ := rp.lst e2
          exact ⟨_, _, rfl, .inl ⟨vs, SqL.of g, rr.len.symm⟩, up _ _ (up_same rp rel_int h)⟩
        · cases e
      · cases e
    · exact h.elim
  · exact h.elim
def rInt : List T → Hw → Kw → Prop := fun xs W Q => match xs with
  | [.int i] => Q (.int i) W
  | [.bl k] => Q (.int (if k then 1 else 0)) W
  | _ => False
theorem ct_int : CallT X (.type "int") rInt := by
  refine CallR.imp call_int1 ?_
  rintro xs H Q ⟨as, W, R, r, rp, h, up⟩
  unfold rInt at h
  split at h
  · obtain ⟨v, q, rfl, r1, r2⟩ := r.inv_cons
    rw [r2.inv_nil]
    simp only [RelT] at r1; subst r1
    exact .inl ⟨_, rfl, up _ _ (up_same rp rel_int h)⟩
  · obtain ⟨v, q, rfl, r1, r2⟩ := r.inv_cons
    rw [r2.inv_nil]
    simp only [RelT] at r1; subst r1
    exact .inr ⟨_, rfl, up _ _ (up_same rp rel_int h)⟩
  · exact h.elim
def rMax2 : List T → Hw → Kw → Prop := fun xs W Q => match xs with
  | [.int i, .int j] => Q (.int (max i j)) W
  | _ => False
theorem ct_max2 (hc : X.calm = true) : CallT X (.builtin "max") rMax2 := by
  refine CallR.imp (call_max2 hc) ?_
  rintro xs H Q ⟨as, W, R, r, rp, h, up⟩
  unfold rMax2 at h
  split at h
  · obtain ⟨v, q, rfl, r1, r2⟩ := r.inv_cons
    obtain ⟨v2, q2, rfl, r3, r4⟩ := r2.inv_cons
    rw [r4.inv_nil]
    simp only [RelT] at r1 r3; subst r1; subst r3
    refine ⟨_, _, rfl, up _ _ (up_same rp rel_int ?_)⟩
    rename_i i j
    have e : (if j > i then j else i) = max i j := by split <;> omega
    rw [e]; exact h
  · exact h.elim
def rMin2 : List T → Hw → Kw → Prop := fun xs W Q => match xs with
  | [.int i, .int j] => Q (.int (min i j)) W
  | _ => False
theorem ct_min2 (hc : X.calm = true) : CallT X (.builtin "min") rMin2 := by
  refine CallR.imp (call_min2 hc) ?_
  rintro xs H Q ⟨as, W, R, r, rp, h, up⟩
  unfold rMin2 at h
  split at h
  · obtain ⟨v, q, rfl, r1, r2⟩ := r.inv_cons
    obtain ⟨v2, q2, rfl, r3, r4⟩ := r2.inv_cons
    rw [r4.inv_nil]
    simp only [RelT] at r1 r3; subst r1; subst r3
    refine ⟨_, _, rfl, up _ _ (up_same rp rel_int ?_)⟩
    rename_i i j
    have e : (if j < i then j else i) = min i j := by split <;> omega
    rw [e]; exact h
  · exact h.elim
def boolsT : List T → Option (List Bool)
  | [] => some []
  | .bl b :: r => (boolsT r).map (b :: ·)
  | _ => none
theorem boolsT_map : ∀ bs : List Bool, boolsT (bs.map T.bl) = some bs
  | [] => rfl
  | b :: bs => by simp [boolsT, boolsT_map bs]
theorem boolsT_eq : ∀ {ts : List T} {bs : List Bool}, boolsT ts = some bs → ts = bs.map T.bl
  | [], bs, h => by simp only [boolsT, Option.some.injEq] at h; subst h; rfl
  | t :: r, bs, h => by
    cases t <;> simp only [boolsT] at h <;> try (cases h; done)
    rename_i b
    cases q : boolsT r with
    | none => rw [q] at h; cases h
    | some cs =>
      rw [q] at h
      simp only [Option.map_some, Option.some.injEq] at h
      subst h
      rw [boolsT_eq q]; rfl
theorem RelTs.bls {K : PySem.W.Frag} {H : Hp} {bs : List Bool} {vs : List V} (h : RelTs K H (bs.map T.bl) vs) : vs = bs.map V.bl := RelTs.map_inv (fun x v r => by simpa only [RelT] using r) h
theorem RelTs.ints_inv {K : PySem.W.Frag} {H : Hp} {bs : List Int} {vs : List V} (h : RelTs K H (bs.map T.int) vs) : vs = bs.map V.int := RelTs.map_inv (fun x v r => by simpa only [RelT] using r) h
theorem RelTs.strs_inv {K : PySem.W.Frag} {H : Hp} {bs : List Str} {vs : List V} (h : RelTs K H (bs.map T.str) vs) : vs = bs.map V.str := RelTs.map_inv (fun x v r => by simpa only [RelT] using r) h
def rAllT (f : List Bool → Bool) : List T → Hw → Kw → Prop := fun xs W Q => match xs with
  | [.ref a] => match W a with
    | some (.lst ts) => match boolsT ts with
      | some bs => Q (.bl (f bs)) W
      | none => False
    | _ => False
  | _ => False
theorem ct_all (hc : X.calm = true) : CallT X (.builtin "all") (rAllT fun bs => bs.all id) := by
  refine CallR.imp (cr_all hc) ?_
  rintro xs H Q ⟨as, W, R, r, rp, h, up⟩
  unfold rAllT at h
  split at h
  · split at h
    · rename_i e
      split at h
      · rename_i bs eb
        obtain ⟨v, q, rfl, r1, r2⟩ := r.inv_cons
        rw [r2.inv_nil]
        simp only [RelT] at r1; subst r1
        obtain ⟨vs, g, rr⟩ := rp.lst e
        rw [boolsT_eq eb] at rr
        rw [rr.bls] at g
        exact ⟨_, bs, rfl, SqL.of g, up _ _ (up_same rp rel_bl h)⟩
      · exact h.elim
    · exact h.elim
  · exact h.elim
theorem ct_any (hc : X.calm = true) : CallT X (.builtin "any") (rAllT fun bs => bs.any id) := by
  refine CallR.imp (cr_any hc) ?_
  rintro xs H Q ⟨as, W, R, r, rp, h, up⟩
  unfold rAllT at h
  split at h
  · split at h
    · rename_i e
      split at h
      · rename_i bs eb
        obtain ⟨v, q, rfl, r1, r2⟩ := r.inv_cons
        rw [r2.inv_nil]
        simp only [RelT] at r1; subst r1
        obtain ⟨vs, g, rr⟩ := rp.lst e
        rw [boolsT_eq eb] at rr
        rw [rr.bls] at g
        exact ⟨_, bs, rfl, SqL.of g, up _ _ (up_same rp rel_bl h)⟩
      · exact h.elim
    · exact h.elim
  · exact h.elim
def rOrd : List T → Hw → Kw → Prop := fun xs W Q => match xs with
  | [.str x] => x.length = 1 ∧ Q (.int (x.cps.getD 0 0 : Nat)) W
  | _ => False
theorem ct_ord : CallT X (.builtin "ord") rOrd := by
  refine CallR.imp call_ord ?_
  rintro xs H Q ⟨as, W, R, r, rp, h, up⟩
  unfold rOrd at h
  split at h
  · obtain ⟨v, q, rfl, r1, r2⟩ := r.inv_cons
    rw [r2.inv_nil]
    simp only [RelT] at r1; subst r1
    exact ⟨_, rfl, h.1, up _ _ (up_same rp rel_int h.2)⟩
  · exact h.elim
/-! ### list, tuple -/
def rList : List T → Hw → Kw → Prop := fun xs W Q => match xs with
  | [t] => match itemsT W t with
    | some ts => ∀ p, W p = none → Q (.ref p) (updw W p (.lst ts))
    | none => False
  | _ => False
theorem items_sq {K : PySem.W.Frag} {H : Hp} {W : Hw} {t : T} {v : V} {ts : List T} (rp : Rep K H W) (r : RelT K H t v) (e : itemsT W t = some ts) : ∃ p vs, v = .ref p ∧ (SqL K H p vs ∨ SqT K H p vs) ∧ RelTs K H ts vs := by
  unfold itemsT at e
  split at e
  · cases e; simp only [RelT] at r
    obtain ⟨a, vs, rfl, g, rr⟩ := r
    exact ⟨a, vs, rfl, .inr (SqT.of g), rr⟩
  · cases e; simp only [RelT] at r
    obtain ⟨a, vs, rfl, g, rr⟩ := r
    exact ⟨a, vs, rfl, .inl g.sq, rr⟩
  · split at e
    · rename_i e2
      cases e; simp only [RelT] at r; subst r
      obtain ⟨vs, g, rr⟩ := rp.lst e2
      exact ⟨_, vs, rfl, .inl (SqL.of g), rr⟩
    · cases e
  · cases e
theorem ct_list : CallT X (.type "list") rList := by
  refine CallR.imp call_list_of ?_
  rintro xs H Q ⟨as, W, R, r, rp, h, up⟩
  unfold rList at h
  split at h
  · obtain ⟨v, q, rfl, r1, r2⟩ := r.inv_cons
    rw [r2.inv_nil]
    split at h
    · rename_i ts e
      obtain ⟨p, vs, rfl, s, rr⟩ := items_sq rp r1 e
      exact ⟨p, vs, rfl, s, fun l nl => up _ _ (up_lst rp nl rr h)⟩
    · exact h.elim
  · exact h.elim
def rTuple : List T → Hw → Kw → Prop := fun xs W Q => match xs with
  | [t] => match itemsT W t with
    | some ts => Q (.tup ts) W
    | none => False
  | _ => False
theorem ct_tuple : CallT X (.type "tuple") rTuple := by
  refine CallR.imp call_tuple_of ?_
  rintro xs H Q ⟨as, W, R, r, rp, h, up⟩
  unfold rTuple at h
  split at h
  · obtain ⟨v, q, rfl, r1, r2⟩ := r.inv_cons
    rw [r2.inv_nil]
    split at h
    · rename_i ts e
      unfold itemsT at e
      split at e
      · cases e; simp only [RelT] at r1
        obtain ⟨a, vs, rfl, g, rr⟩ := r1
        exact ⟨a, vs, rfl, .inr ⟨SqT.of g, up _ _ (up_same rp (by simp only [RelT]; exact ⟨a, vs, rfl, g, rr⟩) h)⟩⟩
      · cases e; simp only [RelT] at r1
        obtain ⟨a, vs, rfl, g, rr⟩ := r1
        exact ⟨a, vs, rfl, .inl ⟨g.sq, fun l nl => up _ _ (up_tup rp nl rr h)⟩⟩
      · split at e
        · rename_i e2
          cases e; simp only [RelT] at r1; subst r1
          obtain ⟨vs, g, rr⟩ := rp.lst e2
          exact ⟨_, vs, rfl, .inl ⟨SqL.of g, fun l nl => up _ _ (up_tup rp nl rr h)⟩⟩
        · cases e
      · cases e
    · exact h.elim
  · exact h.elim

/-! ### methods of lists and texts -/
/-- a list is written -/
theorem up_wr {K : PySem.W.Frag} {H : Hp} {W : Hw} {R : Kw} {p : Addr} {ts : List T} {us vs : List V} {t : T} {v : V} (rp : Rep K H W) (h : H p = some (.lst us)) (r : RelTs K H ts vs) (rt : RelT K H t v) (q : R t (updw W p (.lst ts))) : Up K H R v (upd H p (.lst vs)) := by
  have gw : Grow K H (upd H p (.lst vs)) := .upd (by rw [h]; trivial)
  exact ⟨t, _, gw, rt.grow gw, rp.upd (ow := .lst ts) gw ⟨vs, upd_same, r.grow gw⟩, q⟩
def rAppendT : T → List T → Hw → Kw → Prop := fun x vs W Q => match x, vs with
  | .ref l, [y] => match W l with
    | some (.lst xs) => xs.length < sizeLine ∧ Q .non (updw W l (.lst (xs ++ [y])))
    | _ => False
  | _, _ => False
theorem mtt_append : MtT X "list.append" rAppendT := by
  refine MtR.imp mt_append ?_
  rintro x xs H Q ⟨a, as, W, R, ra, r, rp, h, up⟩
  unfold rAppendT at h
  split at h
  · split at h
    · rename_i e
      obtain ⟨v, q, rfl, r1, r2⟩ := r.inv_cons
      rw [r2.inv_nil]
      simp only [RelT] at ra; subst ra
      obtain ⟨vs, g, rr⟩ := rp.lst e
      exact ⟨_, vs, v, rfl, rfl, g, by rw [rr.len]; exact h.1, up _ _ (up_wr rp g (rr.append (.cons r1 .nil)) rel_non h.2)⟩
    · exact h.elim
  · exact h.elim
def rExtendT : T → List T → Hw → Kw → Prop := fun x vs W Q => match x, vs with
  | .ref l, [.ref b] => match W l, W b with
    | some (.lst xs), some (.lst ys) => xs.length + ys.length ≤ sizeLine ∧ Q .non (updw W l (.lst (xs ++ ys)))
    | _, _ => False
  | _, _ => False
theorem mtt_extend : MtT X "list.extend" rExtendT := by
  refine MtR.imp mt_extend ?_
  rintro x xs H Q ⟨a, as, W, R, ra, r, rp, h, up⟩
  unfold rExtendT at h
  split at h
  · split at h
    · rename_i e e2
      obtain ⟨v, q, rfl, r1, r2⟩ := r.inv_cons
      rw [r2.inv_nil]
      simp only [RelT] at ra r1; subst ra; subst r1
      obtain ⟨vs, g, rr⟩ := rp.lst e
      obtain ⟨us, g2, rr2⟩ := rp.lst e2
      exact ⟨_, _, vs, us, rfl, rfl, g, g2, by rw [rr.len, rr2.len]; exact h.1, up _ _ (up_wr rp g (rr.append rr2) rel_non h.2)⟩
    · exact h.elim
  · exact h.elim
def rPopT : T → List T → Hw → Kw → Prop := fun x vs W Q => match x, vs with
  | .ref l, [] => match W l with
    | some (.lst xs) => match xs[xs.length - 1]? with
      | some y => Q y (updw W l (.lst xs.dropLast))
      | none => False
    | _ => False
  | _, _ => False
theorem RelTs.dropLast {K : PySem.W.Frag} {H : Hp} {ts : List T} {vs : List V} (r : RelTs K H ts vs) : RelTs K H ts.dropLast vs.dropLast := by
  rw [List.dropLast_eq_take, List.dropLast_eq_take, r.len]
  exact r.take _
theorem mtt_pop : MtT X "list.pop" rPopT := by
  refine MtR.imp mt_pop ?_
  rintro x xs H Q ⟨a, as, W, R, ra, r, rp, h, up⟩
  unfold rPopT at h
  split at h
  · split at h
    · rename_i e
      split at h
      · rename_i y ey
        rw [r.inv_nil]
        simp only [RelT] at ra; subst ra
        obtain ⟨vs, g, rr⟩ := rp.lst e
        obtain ⟨v, ev, rv⟩ := rr.get ey
        exact ⟨_, vs, v, rfl, rfl, g, by rw [rr.len]; exact ev, up _ _ (up_wr rp g rr.dropLast rv h)⟩
      · exact h.elim
    · exact h.elim
  · exact h.elim
def rPopAtT : T → List T → Hw → Kw → Prop := fun x vs W Q => match x, vs with
  | .ref l, [.int i] => match W l with
    | some (.lst xs) => 0 ≤ i ∧ i < 2 ^ 63 ∧ match xs[i.toNat]? with
      | some y => Q y (updw W l (.lst (xs.eraseIdx i.toNat)))
      | none => False
    | _ => False
  | _, _ => False
theorem RelTs.erase {K : PySem.W.Frag} {H : Hp} : ∀ {ts : List T} {vs : List V} (i : Nat), RelTs K H ts vs → RelTs K H (ts.eraseIdx i) (vs.eraseIdx i)
  | [], vs, i, h => by rw [h.inv_nil]; exact .nil
  | t :: ts, vs, 0, h => by
    obtain ⟨v, r, rfl, h1, h2⟩ := h.inv_cons
    exact h2
  | t :: ts, vs, i + 1, h => by
    obtain ⟨v, r, rfl, h1, h2⟩ := h.inv_cons
    exact .cons h1 (RelTs.erase i h2)
theorem mtt_popAt : MtT X "list.pop" rPopAtT := by
  refine MtR.imp mt_popAt ?_
  rintro x xs H Q ⟨a, as, W, R, ra, r, rp, h, up⟩
  unfold rPopAtT at h
  split at h
  · rename_i l i
    split at h
    · rename_i e
      obtain ⟨h0, h1, h⟩ := h
      split at h
      · rename_i y ey
        obtain ⟨v, q, rfl, r1, r2⟩ := r.inv_cons
        rw [r2.inv_nil]
        simp only [RelT] at ra r1; subst ra; subst r1
        obtain ⟨vs, g, rr⟩ := rp.lst e
        obtain ⟨v, ev, rv⟩ := rr.get ey
        have hl := (List.getElem?_eq_some_iff.mp ey).1
        refine ⟨_, vs, i, i.toNat, v, rfl, rfl, g, by omega, h1, ?_, ev, up _ _ (up_wr rp g (rr.erase _) rv h)⟩
        unfold seqIndex?
        rw [rr.len]
        first
          | (simp; omega)
          | (split <;> simp <;> omega)
      · exact h.elim
    · exact h.elim
  · exact h.elim
def strsT : List T → Option (List Str)
  | [] => some []
  | .str b :: r => (strsT r).map (b :: ·)
  | _ => none
theorem strsT_map : ∀ bs : List Str, strsT (bs.map T.str) = some bs
  | [] => rfl
  | b :: bs => by simp [strsT, strsT_map bs]
theorem strsT_eq : ∀ {ts : List T} {bs : List Str}, strsT ts = some bs → ts = bs.map T.str
  | [], bs, h => by simp only [strsT, Option.some.injEq] at h; subst h; rfl
  | t :: r, bs, h => by
    cases t <;> simp only [strsT] at h <;> try (cases h; done)
    rename_i b
    cases q : strsT r with
    | none => rw [q] at h; cases h
    | some cs =>
      rw [q] at h
      simp only [Option.map_some, Option.some.injEq] at h
      subst h
      rw [strsT_eq q]; rfl
def rJoinT : T → List T → Hw → Kw → Prop := fun x vs W Q => match x, vs with
  | .str z, [t] => match itemsT W t with
    | some ts => match strsT ts with
      | some ys => (ys.map (·.length)).sum + ys.length * z.length ≤ 16777216 ∧ Q (.str (Txt.join z ys)) W
      | none => False
    | none => False
  | _, _ => False
theorem mtt_join : MtT X "str.join" rJoinT := by
  refine MtR.imp mt_join ?_
  rintro x xs H Q ⟨a, as, W, R, ra, r, rp, h, up⟩
  unfold rJoinT at h
  split at h
  · split at h
    · rename_i ts e
      split at h
      · rename_i ys ey
        obtain ⟨v, q, rfl, r1, r2⟩ := r.inv_cons
        rw [r2.inv_nil]
        simp only [RelT] at ra; subst ra
        obtain ⟨p, vs, rfl, s, rr⟩ := items_sq rp r1 e
        rw [strsT_eq ey] at rr
        rw [rr.strs_inv] at s
        exact ⟨_, p, ys, rfl, rfl, s, h.1, up _ _ (up_same rp rel_str h.2)⟩
      · exact h.elim
    · exact h.elim
  · exact h.elim
end
end TL

set_option Elab.async false
set_option linter.all false
set_option maxRecDepth 100000
set_option maxHeartbeats 4000000
/-! TL: dicts, in -/
namespace TL
open PySem PySem.Spec PyProof.Rows L2
def keyT : T → Option Key
  | .int i => some (.inl i)
  | .str x => some (.inr x)
  | _ => none
def keysL : List T → Option (List Key)
  | [] => some []
  | t :: r => match keyT t, keysL r with
    | some k, some ks => some (k :: ks)
    | _, _ => none
def keysT : T → Option (List Key)
  | .tup ts => keysL ts
  | _ => none
theorem keyT_v {K : PySem.W.Frag} {H : Hp} {t : T} {v : V} {k : Key} (r : RelT K H t v) (e : keyT t = some k) : v = kV k := by
  unfold keyT at e
  split at e
  · cases e; simp only [RelT] at r; exact r
  · cases e; simp only [RelT] at r; exact r
  · cases e
theorem keysL_v {K : PySem.W.Frag} {H : Hp} : ∀ {ts : List T} {vs : List V} {ks : List Key}, RelTs K H ts vs → keysL ts = some ks → vs = ks.map kV
  | [], vs, ks, r, e => by simp only [keysL, Option.some.injEq] at e; subst e; exact r.inv_nil
  | t :: ts, vs, ks, r, e => by
    obtain ⟨v, q, rfl, r1, r2⟩ := r.inv_cons
    simp only [keysL] at e
    split at e
    · rename_i k ks' e1 e2
      cases e
      rw [keyT_v r1 e1, keysL_v r2 e2]; rfl
    · cases e
section
variable {κ : Type} [DecidableEq κ]
def lookT (kvs : List (κ × T)) (k : κ) : Option T := (kvs.find? fun kv => decide (kv.1 = k)).map (·.2)
def putT (kvs : List (κ × T)) (k : κ) (v : T) : List (κ × T) :=
  if (kvs.any fun kv => decide (kv.1 = k)) = true then kvs.map (fun kv => if kv.1 = k then (kv.1, v) else kv) else kvs ++ [(k, v)]
variable {K : PySem.W.Frag} {H : Hp}
theorem lookT_nil {k : κ} : lookT ([] : List (κ × T)) k = none := rfl
theorem lookT_cons {p : κ × T} {r : List (κ × T)} {k : κ} : lookT (p :: r) k = if p.1 = k then some p.2 else lookT r k := by
  unfold lookT
  rw [List.find?_cons]
  by_cases e : p.1 = k
  · simp [e]
  · simp [e]
theorem relKV_look : ∀ {kvs : List (κ × T)} {ps : List (κ × V)} (k : κ), RelKV K H kvs ps → (lookT kvs k = none ∧ valV ps k = none) ∨ ∃ t v, lookT kvs k = some t ∧ valV ps k = some v ∧ RelT K H t v
  | [], ps, k, r => by cases r; exact .inl ⟨rfl, rfl⟩
  | (k', t) :: kvs, ps, k, r => by
    obtain ⟨v, q, rfl, r1, r2⟩ := r
    by_cases e : k' = k
    · exact .inr ⟨t, v, by rw [lookT_cons, if_pos e], valV_pos e, r1⟩
    · rw [lookT_cons, if_neg e, valV_neg (p := (k', v)) e]
      exact relKV_look k r2
theorem relKV_any {k : κ} : ∀ {kvs : List (κ × T)} {ps : List (κ × V)}, RelKV K H kvs ps → (kvs.any fun kv => decide (kv.1 = k)) = (ps.any fun kv => decide (kv.1 = k))
  | [], ps, r => by cases r; rfl
  | (k', t) :: kvs, ps, r => by
    obtain ⟨v, q, rfl, r1, r2⟩ := r
    simp only [List.any_cons, relKV_any r2]
theorem relKV_map {k : κ} {t : T} {v : V} (rv : RelT K H t v) : ∀ {kvs : List (κ × T)} {ps : List (κ × V)}, RelKV K H kvs ps → RelKV K H (kvs.map fun kv => if kv.1 = k then (kv.1, t) else kv) (ps.map fun kv => if kv.1 = k then (kv.1, v) else kv)
  | [], ps, r => by cases r; rfl
  | (k', t') :: kvs, ps, r => by
    obtain ⟨v', q, rfl, r1, r2⟩ := r
    by_cases e : k' = k
    · simp only [List.map_cons, if_pos e]
      exact ⟨v, _, rfl, rv, relKV_map rv r2⟩
    · simp only [List.map_cons, if_neg e]
      exact ⟨v', _, rfl, r1, relKV_map rv r2⟩
theorem relKV_append {k : κ} {t : T} {v : V} (rv : RelT K H t v) : ∀ {kvs : List (κ × T)} {ps : List (κ × V)}, RelKV K H kvs ps → RelKV K H (kvs ++ [(k, t)]) (ps ++ [(k, v)])
  | [], ps, r => by cases r; exact ⟨v, [], rfl, rv, rfl⟩
  | (k', t') :: kvs, ps, r => by
    obtain ⟨v', q, rfl, r1, r2⟩ := r
    exact ⟨v', _, rfl, r1, relKV_append rv r2⟩
theorem relKV_put {k : κ} {t : T} {v : V} (rv : RelT K H t v) {kvs : List (κ × T)} {ps : List (κ × V)} (r : RelKV K H kvs ps) : RelKV K H (putT kvs k t) (putK ps k v) := by
  unfold putT putK
  rw [relKV_any r]
  split
  · exact relKV_map rv r
  · exact relKV_append rv r
end
section
variable {X : Cx} {Wx : WX} {pos : Pos} {a b c e o i : Expr} {es : List Expr} {ta tb tc te to ti : TEw} {t tk : TAw}
theorem ix_dict (hu : X.A.units + 1 < cLine) : IxR X (fun x y H Q => ∃ a v, x = .ref a ∧ DGet H a y (some v) ∧ Q v H) := by
  intro value slice pins s σ H x y v u Q I rx ry ⟨a, z, ex, g, q⟩ hs
  subst ex
  obtain rfl : v = Value.ref a := rx
  exact tail_any (dict_typeIs I g) PySem.F.slot_dict_getitem.lookup (d_getItem hu I g ry fun w' s' I' r' => ⟨z, H, I', r', q⟩) hs
/-- a list's, a tuple's, a text's, a dict's item -/
def rGetT : R2w := fun a b W Q => match a with
  | .ref p => match W p with
    | some (.dic kvs) => match keyT b with
      | some k => match lookT kvs k with
        | some t => Q t W
        | none => False
      | none => False
    | some (.dit kvs) => match keysT b with
      | some k => match lookT kvs k with
        | some t => Q t W
        | none => False
      | none => False
    | _ => rIxT a b W Q
  | _ => rIxT a b W Q
theorem dget_k {K : PySem.W.Frag} {H : Hp} {W : Hw} {p : Addr} {kvs : List (Key × T)} {b : T} {y : V} {k : Key} (rp : Rep K H W) (rb : RelT K H b y) (e : W p = some (.dic kvs)) (ek : keyT b = some k) :
    (lookT kvs k = none ∧ DGet H p y none) ∨ ∃ t v, lookT kvs k = some t ∧ RelT K H t v ∧ DGet H p y (some v) := by
  obtain ⟨ps, g, r⟩ := rp _ _ e
  have ey := keyT_v rb ek
  subst ey
  have q := DGet.k (k := k) g
  rcases relKV_look k r with ⟨h1, h2⟩ | ⟨t, v, h1, h2, h3⟩
  · rw [h2] at q; exact .inl ⟨h1, q⟩
  · rw [h2] at q; exact .inr ⟨t, v, h1, h3, q⟩
theorem dget_t {K : PySem.W.Frag} {H : Hp} {W : Hw} {p : Addr} {kvs : List (List Key × T)} {b : T} {y : V} {k : List Key} (rp : Rep K H W) (rb : RelT K H b y) (e : W p = some (.dit kvs)) (ek : keysT b = some k) :
    (lookT kvs k = none ∧ DGet H p y none) ∨ ∃ t v, lookT kvs k = some t ∧ RelT K H t v ∧ DGet H p y (some v) := by
  obtain ⟨ps, g, r⟩ := rp _ _ e
  unfold keysT at ek
  split at ek
  · simp only [RelT] at rb
    obtain ⟨a, vs, rfl, h, rr⟩ := rb
    rw [keysL_v rr ek] at h
    have q := DGet.t (k := k) g h
    rcases relKV_look k r with ⟨h1, h2⟩ | ⟨t, v, h1, h2, h3⟩
    · rw [h2] at q; exact .inl ⟨h1, q⟩
    · rw [h2] at q; exact .inr ⟨t, v, h1, h3, q⟩
  · cases ek
theorem ixg (hu : X.A.units + 1 < cLine) : IxR X (low2 X.K rGetT) := by
  refine IxR.imp (IxR.or (ix_dict hu) ixt) ?_
  rintro x y H Q ⟨a, b, W, R, ra, rb, rp, h, up⟩
  unfold rGetT at h
  split at h
  · split at h
    · rename_i kvs e
      split at h
      · rename_i k ek
        simp only [RelT] at ra; subst ra
        rcases dget_k rp rb e ek with ⟨h1, _⟩ | ⟨t, v, h1, h2, h3⟩
        · rw [h1] at h; exact h.elim
        · rw [h1] at h
          exact .inl ⟨_, v, rfl, h3, up _ _ (up_same rp h2 h)⟩
      · exact h.elim
    · rename_i kvs e
      split at h
      · rename_i k ek
        simp only [RelT] at ra; subst ra
        rcases dget_t rp rb e ek with ⟨h1, _⟩ | ⟨t, v, h1, h2, h3⟩
        · rw [h1] at h; exact h.elim
        · rw [h1] at h
          exact .inl ⟨_, v, rfl, h3, up _ _ (up_same rp h2 h)⟩
      · exact h.elim
    · exact .inr ⟨_, b, W, R, ra, rb, rp, h, up⟩
  · exact .inr ⟨_, b, W, R, ra, rb, rp, h, up⟩
theorem w_get (hu : X.A.units + 1 < cLine) (ha : LE X Wx a ta) (hb : LE X Wx b tb) (hs : PlainIx b := by exact fun _ _ => rfl) : LE X Wx (.Subscript a b pos) (wOp rGetT ta tb) := PE.imp (pe_ix (ixg hu) ha hb hs) fun σ H Q h => wOp_low h

/-! ### stores -/
theorem PSet.or {t t' : TSet} (h : PSet X t) (h' : PSet X t') : PSet X (fun o i v H Q => t o i v H Q ∨ t' o i v H Q) := fun pins s σ H o i v ov iv u Q I ro ri rv q => q.elim (h pins s σ H o i v ov iv u Q I ro ri rv) (h' pins s σ H o i v ov iv u Q I ro ri rv)
theorem PSet.imp {t t' : TSet} (h : PSet X t) (im : ∀ o i v H Q, t' o i v H Q → t o i v H Q) : PSet X t' := fun pins s σ H o i v ov iv u Q I ro ri rv q => h pins s σ H o i v ov iv u Q I ro ri rv (im _ _ _ _ _ q)
theorem set_dict (hu : X.A.units + 1 < cLine) : PSet X (fun o i v H Q => ∃ a H', o = .ref a ∧ DPut H a i v H' ∧ Q H') := by
  intro pins s σ H o i v ov iv u Q I ro ri rv ⟨a, H', eo, g, q⟩
  subst eo
  obtain rfl : ov = Value.ref a := ro
  exact d_setItem hu I g ri rv fun s' I' => ⟨H', I', q⟩
def rSetT (o i v : T) (W : Hw) (Q : Hw → Prop) : Prop := match o with
  | .ref p => match W p with
    | some (.lst xs) => match i with
      | .int k => match ixN xs.length k with
        | some j => Q (updw W p (.lst (xs.set j v)))
        | none => False
      | _ => False
    | some (.dic kvs) => match keyT i with
      | some k => kvs.length < sizeLine ∧ Q (updw W p (.dic (putT kvs k v)))
      | none => False
    | some (.dit kvs) => match keysT i with
      | some k => kvs.length < sizeLine ∧ Q (updw W p (.dit (putT kvs k v)))
      | none => False
    | _ => False
  | _ => False
def lowSet (K : PySem.W.Frag) : TSet := fun o i v H Q => ∃ a b c W R, RelT K H a o ∧ RelT K H b i ∧ RelT K H c v ∧ Rep K H W ∧ rSetT a b c W R ∧ ∀ H' W', Grow K H H' → Rep K H' W' → R W' → Q H'
theorem set_t (hu : X.A.units + 1 < cLine) : PSet X (lowSet X.K) := by
  refine PSet.imp (PSet.or set_list (set_dict hu)) ?_
  rintro o i v H Q ⟨a, b, c, W, R, ra, rb, rc, rp, h, up⟩
  unfold rSetT at h
  split at h
  · rename_i p
    simp only [RelT] at ra; subst ra
    split at h
    · rename_i xs e
      split at h
      · rename_i k
        split at h
        · rename_i j ej
          simp only [RelT] at rb; subst rb
          obtain ⟨vs, g, r⟩ := rp.lst e
          have gw : Grow X.K H (upd H p (.lst (vs.set j v))) := .upd (by rw [g]; trivial)
          refine .inl ⟨p, vs, k, j, rfl, rfl, g, by rw [r.len]; exact ej, up _ _ gw ?_ h⟩
          exact rp.upd (ow := .lst _) gw ⟨_, upd_same, (r.grow gw).set j (rc.grow gw)⟩
        · exact h.elim
      · exact h.elim
    · rename_i kvs e
      split at h
      · rename_i k ek
        obtain ⟨ps, g, r⟩ := rp _ _ e
        have ey := keyT_v rb ek
        subst ey
        have gw : Grow X.K H (upd H p (.dK (putK ps k v))) := .upd (by rw [g]; trivial)
        refine .inr ⟨p, _, rfl, DPut.k g (by rw [r.len]; exact h.1), up _ _ gw ?_ h.2⟩
        exact rp.upd (ow := .dic _) gw ⟨_, upd_same, (relKV_put rc r).grow gw⟩
      · exact h.elim
    · rename_i kvs e
      split at h
      · rename_i k ek
        obtain ⟨ps, g, r⟩ := rp _ _ e
        unfold keysT at ek
        split at ek
        · simp only [RelT] at rb
          obtain ⟨a, vs, rfl, hb, rr⟩ := rb
          rw [keysL_v rr ek] at hb
          have gw : Grow X.K H (upd H p (.dT (putK ps k v))) := .upd (by rw [g]; trivial)
          refine .inr ⟨p, _, rfl, DPut.t g hb (by rw [r.len]; exact h.1), up _ _ gw ?_ h.2⟩
          exact rp.upd (ow := .dit _) gw ⟨_, upd_same, (relKV_put rc r).grow gw⟩
        · cases ek
      · exact h.elim
    · exact h.elim
  · exact h.elim
def wSub (te to ti : TEw) : TSw := fun D τ W => te τ W (fun x W1 => to τ W1 (fun o W2 => ti τ W2 (fun i W3 => rSetT o i x W3 fun W4 => D.nx τ W4) D.ex) D.ex) D.ex
theorem s_sub {p' : Pos} (hu : X.A.units + 1 < cLine) (he : LE X Wx e te) (ho : LE X Wx o to) (hi : LE X Wx i ti)
    (ha : ∀ v, assign (.Subscript o i p') X.env v = (do
      let ov ← holding [v] (eval o X.env)
      let iv ← holding [v, ov] (eval i X.env)
      standAt p'
      holding [v, ov, iv] (setItem ov iv v)
      release [v, ov, iv] []) := by intro _; rfl)
    (hs : swapsWithSole [.Subscript o i p'] e pos.line X.env = pure false := by rfl) (hw : swappedStores [.Subscript o i p'] e X.env = pure none := by rfl)
    (h1 : (assignEach [.Subscript o i p'] X.env).map (·.2) = [assign (.Subscript o i p') X.env] := by rfl) : LS X Wx (.Assign [.Subscript o i p'] e pos) (wSub te to ti) := by
  refine PS.imp (ps_asg he (pg_sub ho hi (set_t hu) ha) hs hw h1) ?_
  rintro D σ H ⟨τ, W, Dw, rs, rp, h, ud, ux⟩
  refine lowE.go rs rp h (fun x W1 v H1 g1 r1 p1 h1 => ?_) ux
  refine lowE.go (rs.grow g1) p1 h1 (fun oT W2 ov H2 g2 r2 p2 h2 => ?_) (ux.grow g1)
  refine lowE.go (rs.grow (g1.trans g2)) p2 h2 (fun iT W3 iv H3 g3 r3 p3 h3 => ?_) (ux.grow (g1.trans g2))
  exact ⟨oT, iT, x, W3, _, r2.grow g3, r3, r1.grow (g2.trans g3), p3, h3, fun H' W' g' p' q => ud.nx _ _ ⟨τ, W', (g1.trans (g2.trans g3)).trans g', rs.grow ((g1.trans (g2.trans g3)).trans g'), p', q⟩⟩

/-! ### in -/
def flatT : T → Bool
  | .non => true
  | .bl _ => true
  | .int _ => true
  | .str _ => true
  | _ => false
def eqF : T → T → Bool
  | .non, .non => true
  | .bl a, .bl b => a == b
  | .bl a, .int b => (if a then 1 else 0) == b
  | .int a, .bl b => a == (if b then 1 else 0)
  | .int a, .int b => a == b
  | .str a, .str b => a == b
  | _, _ => false
theorem flat_v {K : PySem.W.Frag} {H : Hp} {t : T} {v : V} (r : RelT K H t v) (h : flatT t = true) : flatV v = true := by
  cases t <;> simp only [RelT] at r <;> first | (subst r; first | rfl | cases h) | cases h
theorem eq_v {K : PySem.W.Frag} {H : Hp} {t u : T} {v w : V} (r : RelT K H t v) (r2 : RelT K H u w) (h : flatT t = true) (h2 : flatT u = true) : eqV v w = eqF t u := by
  cases t <;> first | (cases h; done) | skip
  all_goals (cases u <;> first | (cases h2; done) | (simp only [RelT] at r r2; subst r; subst r2; rfl))
theorem in_v {K : PySem.W.Frag} {H : Hp} {t : T} {v : V} (r : RelT K H t v) (h : flatT t = true) : ∀ {ts : List T} {vs : List V}, RelTs K H ts vs → ts.all flatT = true → inV v vs = ts.any (eqF · t) ∧ vs.all flatV = true
  | [], vs, q, _ => by rw [q.inv_nil]; exact ⟨rfl, rfl⟩
  | u :: ts, vs, q, e => by
    obtain ⟨w, vs', rfl, r1, r2⟩ := q.inv_cons
    rw [List.all_cons, Bool.and_eq_true] at e
    obtain ⟨h1, h2⟩ := in_v r h r2 e.2
    refine ⟨?_, ?_⟩
    · unfold inV at h1 ⊢
      rw [List.any_cons, List.any_cons, h1, eq_v r1 r e.1 h]
    · rw [List.all_cons, h2, flat_v r1 e.1]; rfl
def inSeq (neg : Bool) (xs : List T) (a : T) (W : Hw) (Q : Kw) : Prop := flatT a = true ∧ xs.all flatT = true ∧ Q (.bl (neg != xs.any (eqF · a))) W
def rInT (neg : Bool) : R2w := fun a b W Q => match b with
  | .ref p => match W p with
    | some (.dic kvs) => match keyT a with
      | some k => Q (.bl (neg != (lookT kvs k).isSome)) W
      | none => False
    | some (.dit kvs) => match keysT a with
      | some k => Q (.bl (neg != (lookT kvs k).isSome)) W
      | none => False
    | some (.lst xs) => inSeq neg xs a W Q
    | _ => False
  | .tup xs => inSeq neg xs a W Q
  | .rol xs => inSeq neg xs a W Q
  | .str z => match a with
    | .str x => Q (.bl (neg != !(Builtin.Str.occurrences z x 0 z.length 1).isEmpty)) W
    | _ => False
  | _ => False
theorem op_dict_in (hu : X.A.units + 1 < cLine) : OpR X (compareOp .In) (fun y x H Q => ∃ a o, x = .ref a ∧ DGet H a y o ∧ Q (.bl o.isSome) H) := by
  intro pins s σ H x y v u Q I rx ry ⟨a, o, ey, g, q⟩
  subst ey
  obtain rfl : u = Value.ref a := ry
  exact d_in hu I g rx fun s3 I3 => ⟨.bl o.isSome, H, I3, rfl, q⟩
theorem op_dict_notIn (hu : X.A.units + 1 < cLine) : OpR X (compareOp .NotIn) (fun y x H Q => ∃ a o, x = .ref a ∧ DGet H a y o ∧ Q (.bl (!o.isSome)) H) := by
  intro pins s σ H x y v u Q I rx ry ⟨a, o, ey, g, q⟩
  subst ey
  obtain rfl : u = Value.ref a := ry
  exact d_notIn hu I g rx fun s3 I3 => ⟨.bl (!o.isSome), H, I3, rfl, q⟩
theorem seq_in {K : PySem.W.Frag} {neg : Bool} {H : Hp} {W : Hw} {R : Kw} {Q : VK} {a : T} {x : V} {p : Addr} {xs : List T} {vs : List V} (ra : RelT K H a x) (rp : Rep K H W) (s : SqL K H p vs ∨ SqT K H p vs) (r : RelTs K H xs vs) (h : inSeq neg xs a W R) (up : ∀ v H', Up K H R v H' → Q v H') :
    rIn K neg x (.ref p) H Q := by
  obtain ⟨h1, h2, h3⟩ := h
  obtain ⟨q1, q2⟩ := in_v ra h1 r h2
  refine ⟨p, vs, rfl, s, flat_v ra h1, q2, up _ _ (up_same rp rel_bl ?_)⟩
  rw [q1]
  cases neg <;> simpa using h3
theorem ot_in (hu : X.A.units + 1 < cLine) : OpT X (compareOp .In) (rInT false) := by
  refine OpR.imp (OpR.or (op_dict_in hu) (OpR.or op_in_seq op_in_str)) ?_
  rintro x y H Q ⟨a, b, W, R, ra, rb, rp, h, up⟩
  unfold rInT at h
  split at h
  · simp only [RelT] at rb; subst rb
    split at h
    · rename_i kvs e
      split at h
      · rename_i k ek
        rcases dget_k rp ra e ek with ⟨h1, h2⟩ | ⟨t, v, h1, h2, h3⟩
        · rw [h1] at h; exact .inl ⟨_, _, rfl, h2, up _ _ (up_same rp rel_bl h)⟩
        · rw [h1] at h; exact .inl ⟨_, _, rfl, h3, up _ _ (up_same rp rel_bl h)⟩
      · exact h.elim
    · rename_i kvs e
      split at h
      · rename_i k ek
        rcases dget_t rp ra e ek with ⟨h1, h2⟩ | ⟨t, v, h1, h2, h3⟩
        · rw [h1] at h; exact .inl ⟨_, _, rfl, h2, up _ _ (up_same rp rel_bl h)⟩
        · rw [h1] at h; exact .inl ⟨_, _, rfl, h3, up _ _ (up_same rp rel_bl h)⟩
      · exact h.elim
    · rename_i xs e
      obtain ⟨vs, g, r⟩ := rp.lst e
      exact .inr (.inl (seq_in ra rp (.inl (SqL.of g)) r h up))
    · exact h.elim
  · simp only [RelT] at rb
    obtain ⟨p, vs, rfl, g, r⟩ := rb
    exact .inr (.inl (seq_in ra rp (.inr (SqT.of g)) r h up))
  · simp only [RelT] at rb
    obtain ⟨p, vs, rfl, g, r⟩ := rb
    exact .inr (.inl (seq_in ra rp (.inl g.sq) r h up))
  · split at h
    · simp only [RelT] at ra rb; subst ra; subst rb
      exact .inr (.inr ⟨_, _, rfl, rfl, up _ _ (up_same rp rel_bl (by simpa using h))⟩)
    · exact h.elim
  · exact h.elim
theorem ot_notin (hu : X.A.units + 1 < cLine) : OpT X (compareOp .NotIn) (rInT true) := by
  refine OpR.imp (OpR.or (op_dict_notIn hu) (OpR.or op_notIn_seq op_notin_str)) ?_
  rintro x y H Q ⟨a, b, W, R, ra, rb, rp, h, up⟩
  unfold rInT at h
  split at h
  · simp only [RelT] at rb; subst rb
    split at h
    · rename_i kvs e
      split at h
      · rename_i k ek
        rcases dget_k rp ra e ek with ⟨h1, h2⟩ | ⟨t, v, h1, h2, h3⟩
        · rw [h1] at h; exact .inl ⟨_, _, rfl, h2, up _ _ (up_same rp rel_bl h)⟩
        · rw [h1] at h; exact .inl ⟨_, _, rfl, h3, up _ _ (up_same rp rel_bl h)⟩
      · exact h.elim
    · rename_i kvs e
      split at h
      · rename_i k ek
        rcases dget_t rp ra e ek with ⟨h1, h2⟩ | ⟨t, v, h1, h2, h3⟩
        · rw [h1] at h; exact .inl ⟨_, _, rfl, h2, up _ _ (up_same rp rel_bl h)⟩
        · rw [h1] at h; exact .inl ⟨_, _, rfl, h3, up _ _ (up_same rp rel_bl h)⟩
      · exact h.elim
    · rename_i xs e
      obtain ⟨vs, g, r⟩ := rp.lst e
      exact .inr (.inl (seq_in ra rp (.inl (SqL.of g)) r h up))
    · exact h.elim
  · simp only [RelT] at rb
    obtain ⟨p, vs, rfl, g, r⟩ := rb
    exact .inr (.inl (seq_in ra rp (.inr (SqT.of g)) r h up))
  · simp only [RelT] at rb
    obtain ⟨p, vs, rfl, g, r⟩ := rb
    exact .inr (.inl (seq_in ra rp (.inl g.sq) r h up))
  · split at h
    · simp only [RelT] at ra rb; subst ra; subst rb
      exact .inr (.inr ⟨_, _, rfl, rfl, up _ _ (up_same rp rel_bl (by simpa using h))⟩)
    · exact h.elim
  · exact h.elim

/-! ### a display of a dict: keys that are texts or ints -/
def wPairs : List (TEw × TEw) → Sw → Hw → (List (T × T) → Hw → Prop) → Xw → Prop
  | [], _, W, Q, _ => Q [] W
  | (tk, tv) :: r, τ, W, Q, E => tk τ W (fun x W1 => tv τ W1 (fun y W2 => wPairs r τ W2 (fun ps W3 => Q ((x, y) :: ps) W3) E) E) E
def keysP : List (T × T) → Option (List (Key × T))
  | [] => some []
  | (k, v) :: r => match keyT k, keysP r with
    | some k, some q => some ((k, v) :: q)
    | _, _ => none
def mergeT (kvs more : List (Key × T)) : List (Key × T) := more.foldl (fun acc kv => putT acc kv.1 kv.2) kvs
theorem relKV_merge {K : PySem.W.Frag} {H : Hp} : ∀ {more : List (Key × T)} {ms : List (Key × V)} {kvs : List (Key × T)} {ps : List (Key × V)}, RelKV K H more ms → RelKV K H kvs ps → RelKV K H (mergeT kvs more) (mergeK ps ms)
  | [], ms, kvs, ps, h, r => by cases h; exact r
  | (k, t) :: more, ms, kvs, ps, h, r => by
    obtain ⟨v, q, rfl, r1, r2⟩ := h
    exact relKV_merge (kvs := putT kvs k t) (ps := putK ps k v) r2 (relKV_put r1 r)
def lowP (K : PySem.W.Frag) (Wx : WX) (l : List (TEw × TEw)) : List (TE × TE) := l.map fun p => (lowE K Wx p.1, lowE K Wx p.2)
def RelPs (K : PySem.W.Frag) (H : Hp) : List (T × T) → List (V × V) → Prop
  | [], ps => ps = []
  | (k, t) :: r, ps => ∃ u v q, ps = (u, v) :: q ∧ RelT K H k u ∧ RelT K H t v ∧ RelPs K H r q
theorem RelPs.keys {K : PySem.W.Frag} {H : Hp} : ∀ {ts : List (T × T)} {ps : List (V × V)} {kvs : List (Key × T)}, RelPs K H ts ps → keysP ts = some kvs → ∃ kps : List (Key × V), ps = kps.map (fun kv => (kV kv.1, kv.2)) ∧ RelKV K H kvs kps ∧ kps.length = ts.length
  | [], ps, kvs, r, e => by
    simp only [keysP, Option.some.injEq] at e; subst e
    cases r
    exact ⟨[], rfl, rfl, rfl⟩
  | (k, t) :: ts, ps, kvs, r, e => by
    obtain ⟨u, v, q, rfl, r1, r2, r3⟩ := r
    simp only [keysP] at e
    split at e
    · rename_i k' q' e1 e2
      cases e
      obtain ⟨kps, h1, h2, h3⟩ := RelPs.keys r3 e2
      refine ⟨(k', v) :: kps, ?_, ⟨v, kps, rfl, r2, h2⟩, by simp [h3]⟩
      rw [keyT_v r1 e1, h1]; rfl
    · cases e
theorem wPairs_low {l : List (TEw × TEw)} : ∀ {τ : Sw} {σ : L2.St} {H : Hp} {W : Hw} {R : List (T × T) → Hw → Prop} {E : Xw} {Q : List (V × V) → Hp → Prop}, RelS X.K H τ σ → Rep X.K H W → wPairs l τ W R E → UpX X.K H E Wx →
    (∀ ps H', (∃ ts W', Grow X.K H H' ∧ RelPs X.K H' ts ps ∧ Rep X.K H' W' ∧ R ts W') → Q ps H') → tPairs (lowP X.K Wx l) σ H Q := by
  induction l with
  | nil => intro τ σ H W R E Q rs rp h ux q; exact q _ _ ⟨[], W, .refl _ _, rfl, rp, h⟩
  | cons p l ih =>
    obtain ⟨tk, tv⟩ := p
    intro τ σ H W R E Q rs rp h ux q
    refine lowE.go rs rp h (fun x W1 v H1 g1 r1 p1 h1 => ?_) ux
    refine lowE.go (rs.grow g1) p1 h1 (fun y W2 u H2 g2 r2 p2 h2 => ?_) (ux.grow g1)
    refine ih (rs.grow (g1.trans g2)) p2 h2 (ux.grow (g1.trans g2)) ?_
    rintro ps H3 ⟨ts, W3, g3, r3, p3, h3⟩
    exact q _ _ ⟨(x, y) :: ts, W3, (g1.trans g2).trans g3, ⟨v, u, ps, rfl, r1.grow (g2.trans g3), r2.grow g3, r3⟩, p3, h3⟩
def wDisp (l : List (TEw × TEw)) : TEw := fun τ W Q E => ∀ p, W p = none → wPairs l τ (updw W p (.dic [])) (fun ps W2 => W2 p = some (.dic []) ∧ ps.length ≤ 15 ∧ match keysP ps with
  | some kvs => Q (.ref p) (updw W2 p (.dic (mergeT [] kvs)))
  | none => False) E
theorem w_disp {keys : List (Option Expr)} {values : List Expr} {l : List (TEw × TEw)} (h : PPs X pos keys values (lowP X.K Wx l)) (hall : keys.all (·.isSome) = true := by rfl) (hl : keys.length = values.length := by rfl) (h0 : keys ≠ [] := by intro z; cases z) (h15 : keys.length ≤ 15 := by decide) :
    LE X Wx (.Dict keys values pos) (wDisp l) := by
  refine PE.imp (pe_disp h hall hl h0 h15) ?_
  rintro σ H Q ⟨τ, W, R, E, rs, rp, h, up, ux⟩
  intro p np
  refine wPairs_low (W := updw W p (.dic [])) (rs.grow (.new np)) (rp.upd (ow := .dic []) (.new np) ⟨[], upd_same, rfl⟩) (h p (rp.free np)) (ux.grow (.new np)) ?_
  rintro ps H' ⟨ts, W', g', r', p', hp, hlen, h'⟩
  split at h'
  · rename_i kvs ek
    obtain ⟨qs, e, r⟩ := p' _ _ hp
    have eq : qs = [] := r
    subst eq
    obtain ⟨kps, e1, e2, e3⟩ := r'.keys ek
    refine ⟨e, kps, e1, by rw [e3]; exact hlen, ?_⟩
    have gw : Grow X.K H' (upd H' p (.dK (mergeK [] kps))) := .upd (by rw [e]; trivial)
    refine up _ _ ⟨.ref p, _, ((Grow.new np).trans g').trans gw, rel_ref, p'.upd (ow := .dic _) gw ⟨_, upd_same, (relKV_merge (kvs := []) (ps := []) e2 rfl).grow gw⟩, h'⟩
  · exact h'.elim
end
end TL

set_option Elab.async false
set_option linter.all false
set_option maxRecDepth 100000
set_option maxHeartbeats 4000000
/-! TL: own errors over Exception, with one field, thing -/
namespace PySem
namespace TLX
open PySem.W PySem.Calls PyProof.Rows PySem.HandSPX Builtin Builtin.ObjectAttr
abbrev exTail : List Value := [.type "Exception", .type "BaseException", .type "object"]
abbrev mroE (cs : List Addr) : List Value := cs.map Value.ref ++ exTail
theorem mroE_pass (self : Value) : ∀ cs : List Addr, refuseLoop self "__setattr__" (mroE cs) = pure ()
  | [] => F.store_Exception.passes self
  | c :: cs => by
    show refuseLoop self "__setattr__" (.ref c :: mroE cs) = pure ()
    rw [refuseLoop_ref]
    exact mroE_pass self cs
theorem mroE_has (X : String) : ∀ cs : List Addr, (mroE cs).contains (.type X) = exTail.contains (.type X)
  | [] => rfl
  | c :: cs => by
    show (Value.ref c :: mroE cs).contains (.type X) = _
    rw [List.contains_cons, mroE_has X cs]
    rfl
theorem mroE_ne (cs : List Addr) : (mroE cs).isEmpty = false := by cases cs <;> rfl
section
variable {prog : Program} {w : World} {A : Around} {R : Result → Shared → Prop} {hp : Heap} {g : Array GenState} {d : Drawn} {t : Nat} {os : OsState}
/-- a first store into such an error's own dict -/
theorem err_store {K : W.Frag} {name : Str} {tk : Tok} {v : Value} {x C : Addr} {fv : Array Value} {cd : ClassData} {cs : List Addr}
    (KX : K.In hp) (hx : hp.get? x = some { cls := .ref C, data := .fields fv }) (hcd : W.clsIn K C = some cd) (hm : cd.mro = mroE cs) (hh : cd.hasDict = true) (ha : W.findIn K (.ref C) name = some none)
    (hq : ∀ h' tk' dx, (∀ b o, b ≠ x → hp.get? b = some o → h'.get? b = some o) → hp.objs.size ≤ dx → dx ≠ x → h'.get? x = some { cls := .ref C, dict := some dx, data := .fields fv } →
      h'.Ns1 dx (fun y => if y = name then some v else none) → R (.ok (.ret .none)) ⟨h', g, d, tk', os⟩) :
    codeAny (model prog w) A (.call (.builtin "object.__setattr__") ⟨[.ref x, .str name tk, v], []⟩) R ⟨hp, g, d, t, os⟩ := by
  have Ix : W.InstAt hp x { cls := .ref C, data := .fields fv } C none := ⟨hx, rfl, rfl, trivial⟩
  have S0 := F.store_object
  have e0 : cd.mro.isEmpty = false := by rw [hm]; exact mroE_ne cs
  have e1 : cd.mro.contains (.type "object") = true := by rw [hm, mroE_has]; decide +kernel
  have far : x ≠ hp.objs.size := Nat.ne_of_lt (Heap.lt_size hx)
  have isO : W.Looks (model prog w) hp (isInstance (.ref x) (.type "object")) true := Ix.type.andThen (W.looks_mroIn KX (by unfold W.mroIn; rw [hcd, Option.bind_some, if_neg (by rw [e0]; decide), e1]))
  refine codeAny_call_builtin S0.slot.plain S0.entry (@W.check_slot (model prog w) _ _ ⟨hp, g, d, t, os⟩ "object.__setattr__" "object" "__setattr__" (.ref x) [.str name tk, v] [] _ S0.kind S0.split isO (S0.args (.ref x) (.str name tk) v) ?_)
  have lm : W.Looks (model prog w) hp (mroOf (.ref C)) cd.mro := (W.looks_clsIn KX hcd).andThen .now
  have lt : W.Looks (model prog w) hp (storeTaker? none) none := .now
  have lc : W.Looks (model prog w) hp (classData C) cd := W.looks_clsIn KX hcd
  rw [W.osa_eq, refuse_eq]
  refine wpAny_bind (wpAny_bind (Ix.type.at (wpAny_bind (lm.at ?_))))
  rw [hm, mroE_pass]
  refine wpAny_pure (wpAny_bind (Ix.type.at (wpAny_bind ((W.looks_findIn KX ha).at (wpAny_bind (lt.at ?_))))))
  show wpAny _ _ (storeInOwnDict (.ref x) (.ref C) (.str name tk) name v false) _ _ _
  obtain ⟨c1, c2, c3, c4, c5, c6, c7, c8, c9, c10, c11⟩ := cd
  dsimp only at hh
  subst hh
  unfold storeInOwnDict ownDictForStores
  repeat (first | with_reducible refine store_in_new ?_ ?_ | with_reducible refine wpAny_loadPart_at hx ?_ | with_reducible refine lc.at ?_ | wp_step)
  · exact ⟨_, #[], _, (Heap.get?_update_ne _ _ _ _ far.symm).trans (Heap.get?_push_at rfl rfl), rfl, fun e he => absurd he (by simp), fun _ => rfl⟩
  · intro h' tk' hn' hs
    have hx1 : (hp.push { cls := .type "dict", data := .dict #[] }).get? x = some { cls := .ref C, data := .fields fv } := Heap.get?_push_of_some _ hx
    refine hq h' tk' hp.objs.size (fun b o hb ho => ?_) (Nat.le_refl _) far.symm ?_ hn'
    · exact (hs.2 b (Nat.ne_of_lt (Heap.lt_size ho))).trans ((Heap.get?_update_ne _ _ _ _ hb).trans (Heap.get?_push_of_some _ ho))
    · exact (hs.2 x far).trans (Heap.get?_update_self _ hx1 rfl)
end
/-! ### the class's own text -/
def aI (p1 p2 : Pos) : Arguments := { posonlyargs := [], args := [{ arg := "self", annotation := none, pos := p1 }, { arg := "thing", annotation := none, pos := p2 }], vararg := none, kwonlyargs := [], kw_defaults := [], kwarg := none, defaults := [] }
def bI (q1 q2 q3 q4 : Pos) : List Stmt := [.Assign [.Attribute (.Name "self" q1) "thing" q2] (.Name "thing" q3) q4]
def sI : Scope := { kind := .function, names := [(PySem.Str.ofString "self", .local), (PySem.Str.ofString "thing", .local)], isGenerator := false, isCoroutine := false, more := [] }
/-- what the written part says of the error's class, at C, and of its __init__, at fI -/
structure ErrC (K : Frag) (C fI : Addr) : Prop where
  cls : ∃ nm q N bs cs sn sub ab col dd k0 k1 k2 k3 k5, K.lookup C = some (excClassObj nm q C N bs (mroE cs) true sn sub ab col dd k0 k1 k2 k3 k5 "Exception.__new__")
  sa : findIn K (.ref C) "__setattr__" = some (some (.builtin "object.__setattr__"))
  ga : findIn K (.ref C) "__getattribute__" = some (some (.builtin "BaseException.__getattribute__"))
  gg : findIn K (.ref C) "__getattr__" = some none
  noN : findIn K (.ref C) "thing" = some none
  iC : findIn K (.ref C) "__init__" = some (some (.ref fI))
  tI : typeIn K (.ref fI) = some (.type "function")
  kC : keepIn K (.ref C) = true
  exC : subIn K (.ref C) (.type "BaseException") = some true
  tyC : typeIn K (.ref C) = some (.type "type")
  hdC : hasDictIn K C = true
  fn : ∃ (oc : Value) (od : Option Addr) (nm : Str) (kV doc pm : Value) (an : Option Addr) (cdv ct : Value) (osl : Array (Option Value)) (p1 p2 q1 q2 q3 q4 : Pos),
    K.lookup fI = some ⟨oc, od, .func (fnOf "__init__" nm (aI p1 p2) (bI q1 q2 q3 q4) sI .none kV doc pm an cdv ct), osl⟩ ∧ codeIn K cdv nm = true
theorem one_fits (v : Value) : [v].length ≤ sizeLine := by
  rw [sizeLine_eq]
  exact (by decide : 1 ≤ 16777216)
theorem ldN {M : Model} {s : Shared} {name : Str} {scope : Scope} {L a : Addr} {cd : Value} {m : Str → Option Value} {x : Str} {pos : Pos} {v : Value} {Q : Value → Shared → Prop} {A : Around} {E : Value → Shared → Prop} (hn : s.heap.Ns L m) (hv : m x = some v) (h : Q v s)
    (hk : scope.kind = .function := by rfl) (hl : (envOfC name scope L a cd).kindOf x = some .local := by rfl) (hd : (x == ("__debug__" : Str)) = false := by decide) :
    wpAny M A (eval (.Name x pos) (envOfC name scope L a cd)) Q E s := wpAny_Name (wpAny_loadName_local hk hl hn hv h) hd
structure InitDone (h h' : Heap) (x C dx t1 : Addr) (v : Value) : Prop where
  keep : ∀ b o, b ≠ x → h.get? b = some o → h'.get? b = some o
  obj : h'.get? x = some { cls := .ref C, dict := some dx, data := .fields #[.ref t1, .none, .none, .none, .bool false, .none] }
  dbig : h.objs.size ≤ dx
  dne : dx ≠ x
  ns : h'.Ns1 dx (fun y => if y = "thing" then some v else none)
structure ErrMade (h h' : Heap) (e C d : Addr) (v : Value) : Prop where
  keep : ∀ b o, h.get? b = some o → h'.get? b = some o
  new : h.objs.size ≤ e
  obj : ∃ oe vs, h'.get? e = some oe ∧ oe.cls = .ref C ∧ oe.dict = some d ∧ oe.data = .fields vs ∧ vs[1]? = some .none
  dbig : h.objs.size ≤ d
  dne : d ≠ e
  ns : h'.Ns1 d (fun y => if y = "thing" then some v else none)
section
variable {prog : Program} {w : World} {A : Around} {E : Value → Shared → Prop} {R : Result → Shared → Prop} {s : Shared} {K : Frag} {C fI : Addr}
theorem err_init (T : ErrC K C fI) {x t0 : Addr} {v : Value} (X : K.In s.heap) (hlim : s.heap.NoLimit) (hx : s.heap.get? x = some (excO C t0)) (hnx : K.lookup x = none) (hroom : A.depth < recursionLimit)
    (hq : ∀ h' tk dx, InitDone s.heap h' x C dx t0 v → R (.ok (.ret .none)) { s with heap := h', toks := tk }) :
    codeAny (model prog w) A (.call (.ref fI) ⟨[.ref x, v], []⟩) R s := by
  obtain ⟨oc, od, fnm, kV, doc, pm, an, cdv, ct, osl, p1, p2, q1, q2, q3, q4, ho, hcd⟩ := T.fn
  obtain ⟨nm, q, N, bs, cs, sn, sub, ab, col, dd, k0, k1, k2, k3, k5, hC⟩ := T.cls
  have hcl : clsIn K C = some { name := nm, bases := bs, mro := .ref C :: mroE cs, ns := N, qualname := q, hasDict := true, slotNames := sn, subclasses := sub, abstract := ab, collection := col, hasDel := false } := by unfold clsIn; rw [hC] <;> rfl
  refine Att.call_fn (binds := [("self", .ref x), ("thing", v)]) X hlim ho hcd hroom (BindsTo.of_eq (by first | rfl | with_unfolding_all rfl)) (by first | rfl | decide | with_unfolding_all rfl) (fun s₁ IC => ?_) rfl rfl rfl
  obtain ⟨h₁, tk₁, rfl⟩ := IC.toInCall.same
  have k : ∀ b o, s.heap.get? b = some o → h₁.get? b = some o := IC.toInCall.keep
  have hn := IC.toInCall.ns
  have X₁ : K.In h₁ := X.keeps k
  have hx₁ := k _ _ hx
  show wpAny _ _ (execs _ _) _ _ _
  refine wpAny_execs_cons (plainObj_wpAny_Assign_Attribute ?_)
  refine ldN (v := v) hn (by first | rfl | with_unfolding_all rfl | kernel_rfl) (ldN (v := .ref x) hn (by first | rfl | with_unfolding_all rfl | kernel_rfl) ?_)
  refine set_plain X₁ (ox := excO C t0) (od := none) ⟨hx₁, rfl, rfl, trivial⟩ T.sa ?_
  refine err_store (cs := C :: cs) X₁ hx₁ hcl rfl rfl T.noN (fun h₃ tk₃ dx k₃ dn dne hx₃ hn₃ => ?_)
  show wpAny _ _ (execs _ _) _ _ _
  have z : s.heap.objs.size < h₁.objs.size := hn.lt
  exact wpAny_execs_nil (hq h₃ tk₃ dx ⟨fun b o hb e => k₃ b o hb (k b o e), hx₃, Nat.le_of_lt (Nat.lt_of_lt_of_le z dn), dne, hn₃⟩)
theorem err_made (T : ErrC K C fI) {v : Value} (X : K.In s.heap) (hlim : s.heap.NoLimit) (hroom : A.depth + 1 < recursionLimit)
    (hq : ∀ h' tk e d, ErrMade s.heap h' e C d v → R (.ok (.ret (.ref e))) { s with heap := h', toks := tk }) :
    codeAny (model prog w) A (.call (.ref C) ⟨[v], []⟩) R s := by
  obtain ⟨nm, q, N, bs, cs, sn, sub, ab, col, dd, k0, k1, k2, k3, k5, hC⟩ := T.cls
  obtain ⟨hp, g, dr, tk, os⟩ := s
  have k : ∀ b o, hp.get? b = some o → ((hp.push (kdv_tup [v])).push (excO C hp.objs.size)).get? b = some o := fun b o e => Heap.get?_push_of_some _ (Heap.get?_push_of_some _ e)
  have hget : ((hp.push (kdv_tup [v])).push (excO C hp.objs.size)).get? (hp.objs.size + 1) = some (excO C hp.objs.size) := by heap_get
  have hnx : K.lookup (hp.objs.size + 1) = none := by
    cases e : K.lookup (hp.objs.size + 1) with
    | none => rfl
    | some o =>
      have z : hp.get? (hp.objs.size + 1) = some o := X _ _ e
      exact absurd (Nat.lt_of_succ_lt (Heap.lt_size z)) (Nat.lt_irrefl _)
  refine call_own F.excBase_Exception (fun X => mroE_has X cs) (X _ _ hC) (looks_findIn X T.iC) (fun self => bind_fn X self T.tI) (one_fits v) ?_
  refine err_init (s := ⟨(hp.push (kdv_tup [v])).push (excO C hp.objs.size), g, dr, tk, os⟩) T (X.keeps k) (hlim.keeps k) hget hnx ?_ fun h' tk' dx ⟨k', hx, dn, dne, hns⟩ => ?_
  · show A.depth + 1 < recursionLimit
    exact hroom
  · have old : ∀ b o, hp.get? b = some o → h'.get? b = some o := fun b o e => k' b o (Nat.ne_of_lt (Nat.lt_succ_of_lt (Heap.lt_size e))) (k b o e)
    have z : hp.objs.size + 1 + 1 ≤ dx := by
      first
        | (simpa only [Heap.size_push] using dn)
        | exact dn
        | (have q := dn; rw [Heap.size_push, Heap.size_push] at q; exact q)
    exact ⟨rfl, hq h' tk' (hp.objs.size + 1) dx ⟨old, Nat.le_succ _, ⟨_, _, hx, rfl, rfl, rfl, rfl⟩, Nat.le_trans (Nat.le_trans (Nat.le_succ _) (Nat.le_succ _)) z, dne, hns⟩⟩
end
end TLX
end PySem
namespace TL
open PySem PySem.Spec PyProof.Rows L2
theorem relO_thing {v : V} {v' : Value} (r : RelV v v') (f : Str) : RelO (List.lookup f [(("thing" : Str), v)]) (if f = "thing" then some v' else none) := by
  by_cases hw : f = "thing"
  · subst hw
    rw [if_pos rfl]
    have q : List.lookup ("thing" : Str) [(("thing" : Str), v)] = some v := by simp [List.lookup]
    rw [q]
    exact r
  · rw [if_neg hw]
    have qw : (f == ("thing" : Str)) = false := by simpa using hw
    have q2 : List.lookup f [(("thing" : Str), v)] = none := by simp [List.lookup, qw]
    rw [q2]
    trivial
section
variable {X : Cx} {Wx : WX} {C fI : Addr} {x : Str} {a : Expr} {te : TEw}
def tMkE (C : Addr) (ta : TA) : L2.St → Hp → XK → Prop := fun σ H Q => ta σ H fun vs H1 => ∃ v, vs = [v] ∧ ∀ d, H1 d = none → Q (.ref C) (some d) (upd H1 d (.xd [(("thing" : Str), v)]))
theorem pmk_err {ta : TA} {p pos : Pos} {k : Nat} (T : PySem.TLX.ErrC X.K C fI) (gC : X.mg x = some (.ref C)) (hr : Room k X.A) (ha : PA X [a] ta) (hg : Gl X x := by rfl) (hdb : (x == ("__debug__" : Str)) = false := by decide)
    (he : starEach (a :: []) X.env = (false, eval a X.env) :: starEach [] X.env := by rfl) (hpl : (backTo pos (starEach [] X.env)).any (·.1) = false := by rfl) :
    PMk X (.Call (.Name x p) [a] [] pos) (tMkE C ta) := by
  intro pins s σ H Q I h
  refine wpAny_Call_Name_kw (ld_glob I hg gC ?_ hdb)
  refine PySem.W.callWith_K (h₀ := X.base) I.ok.mod.kin T.kC (thn (ha.run pos pins s σ H _ I h) fun us s1 hh => ?_) he hpl
  obtain ⟨vs, H1, I1, r1, v, ev, q1⟩ := hh
  subst ev
  refine ⟨I1.kIn, ?_⟩
  cases r1 with
  | cons rv rn =>
    rename_i v' us'
    cases rn
    show wpAny _ _ (call (.ref C) [v']) _ _ _
    have hlim := I1.nolimit
    obtain ⟨hp, g, dr, tk, os⟩ := s1
    refine wpAny_call (PySem.TLX.err_made T I1.kIn hlim (by have := hr.dp; omega) fun h' tk' e d M => ?_)
    show MkP X pins σ Q (.ref e) ⟨h', g, dr, tk', os⟩
    obtain ⟨oe, fv, hoe, hc, hd, hdat, h1⟩ := M.obj
    have hns := M.ns
    obtain ⟨G', g1, g2⟩ := restrict h' fun b => decide (b ≠ e)
    have gk : ∀ b, b ≠ e → G'.get? b = h'.get? b := fun b hb => g1 b (decide_eq_true hb)
    have ge : G'.get? e = none := g2 e (by simp)
    have old : ∀ b o, hp.get? b = some o → G'.get? b = some o := fun b o q => (gk b (Nat.ne_of_lt (Nat.lt_of_lt_of_le (Heap.lt_size q) M.new))).trans (M.keep b o q)
    have ob : ObjOk X.prog X.w (upd H1 d (.xd [(("thing" : Str), v)])) G' d (.xd [(("thing" : Str), v)]) :=
      ⟨_, hns.at (fun o q => (gk d M.dne).trans q), fun f => relO_thing rv f⟩
    have J : Inv X pins σ (upd H1 d (.xd [(("thing" : Str), v)])) ⟨G', g, dr, tk', os⟩ := I1.laid (t' := tk') old M.dbig ob
    refine ⟨e, oe, fv, ⟨G', g, dr, tk', os⟩, _, .ref C, some d, rfl, J, fun b o q => ?_, ge, hoe, ⟨hc, hd⟩, hdat, h1, ?_, rfl, I1.bare, raises_own T.exC T.tyC, q1 d (I1.hok.fresh M.dbig)⟩
    · by_cases hb : b = e
      · have q' : G'.get? b = some o := q
        rw [hb, ge] at q'; cases q'
      · exact (gk b hb).symm.trans q
    · rw [upd_ne (Ne.symm M.dne)]
      exact I1.hok.fresh M.new
/-- raise C(e) -/
def wRaise (C : Addr) (te : TEw) : TSw := fun D τ W => te τ W (fun t W1 => D.ex C t τ W1) D.ex
theorem s_raise {p pos pos2 : Pos} {k : Nat} (hc : X.calm = true) (T : PySem.TLX.ErrC X.K C fI) (gC : X.mg x = some (.ref C)) (hr : Room k X.A) (tk : Takes X Wx) (ha : LE X Wx a te) (hg : Gl X x := by rfl) (hdb : (x == ("__debug__" : Str)) = false := by decide)
    (he : starEach (a :: []) X.env = (false, eval a X.env) :: starEach [] X.env := by rfl) (hpl : (backTo pos (starEach [] X.env)).any (·.1) = false := by rfl) :
    LS X Wx (.Raise (some (.Call (.Name x p) [a] [] pos)) none pos2) (wRaise C te) := by
  refine PS.imp (ps_raise hc tk (pmk_err T gC hr (pa_cons ha pa_nil he) hg hdb he hpl)) ?_
  rintro D σ H ⟨τ, W, Dw, rs, rp, h, ud, ux⟩
  refine lowE.go rs rp h (fun t W1 v H1 g r1 p1 h1 => ⟨v, rfl, fun d nd => ?_⟩) ux
  have gn : Grow X.K H1 (upd H1 d (.xd [(("thing" : Str), v)])) := .new nd
  exact ux C t W1 v d τ σ _ (g.trans gn) upd_same (r1.grow gn) (rs.grow (g.trans gn)) ⟨p1.new nd, p1.free nd⟩ h1
end
end TL

set_option Elab.async false
set_option linter.all false
set_option maxRecDepth 100000
set_option maxHeartbeats 4000000
/-! TL: a list or tuple of any things against an empty one -/
namespace TL
open PySem PySem.Spec PyProof.Rows L2
def rEqE (K : PySem.W.Frag) (neg : Bool) : R2 := fun x y H Q => ∃ a b xs ys, x = .ref a ∧ y = .ref b ∧ ((SqL K H a xs ∧ SqL K H b ys) ∨ (SqT K H a xs ∧ SqT K H b ys)) ∧ ys = [] ∧ Q (.bl (neg != decide (xs.length = 0))) H
section
variable {X : Cx}
theorem op_eqE (hu : X.A.units < cLine) : OpR X (compareOp .Eq) (rEqE X.K false) := by
  intro pins s σ H x y v u Q I rx ry h
  obtain ⟨a, b, xs, ys, rfl, rfl, h, rfl, q⟩ := h
  cases (show v = Value.ref a from rx)
  cases (show u = Value.ref b from ry)
  rcases h with ⟨ha, hb⟩ | ⟨ha, hb⟩
  · obtain ⟨us, r1, p1, _⟩ := I.list ha
    obtain ⟨ws, r2, p2, _⟩ := I.list hb
    cases r2
    have l1 := r1.length
    by_cases e : xs.length = 0
    · have hsz : us.toArray.size = ([] : List Value).toArray.size := by rw [List.size_toArray, List.size_toArray]; show us.length = 0; omega
      refine SeqAt.eq_listAt (e := fun _ => true) p1.isList p2.isList hsz hu (fun j h1 h2 => absurd h2 (by simp)) ⟨.bl true, H, I, ?_, ?_⟩
      · rw [show ((List.range us.toArray.size).all fun _ => true) = true from List.all_eq_true.mpr fun _ _ => rfl]; rfl
      · simpa [e] using q
    · refine SeqAt.eq_list_lengthsAt p1.isList p2.isList (by cases us with | nil => exact absurd l1 e | cons a r => rfl) hu ⟨.bl false, H, I, rfl, ?_⟩
      simpa [e] using q
  · obtain ⟨us, r1, p1, _⟩ := I.tuple ha
    obtain ⟨ws, r2, p2, _⟩ := I.tuple hb
    cases r2
    have l1 := r1.length
    refine SeqAt.eq_tupleAt (e := fun _ => true) p1 p2 hu (fun j h1 h2 => absurd h2 (by simp)) ⟨.bl (decide (xs.length = 0)), H, I, ?_, ?_⟩
    · show Value.bool _ = Value.bool _
      rw [l1]; cases us <;> rfl
    · simpa using q
theorem op_neE (hu : X.A.units < cLine) : OpR X (compareOp .NotEq) (rEqE X.K true) := by
  intro pins s σ H x y v u Q I rx ry h
  obtain ⟨a, b, xs, ys, rfl, rfl, h, rfl, q⟩ := h
  cases (show v = Value.ref a from rx)
  cases (show u = Value.ref b from ry)
  rcases h with ⟨ha, hb⟩ | ⟨ha, hb⟩
  · obtain ⟨us, r1, p1, _⟩ := I.list ha
    obtain ⟨ws, r2, p2, _⟩ := I.list hb
    cases r2
    have l1 := r1.length
    by_cases e : xs.length = 0
    · have hsz : us.toArray.size = ([] : List Value).toArray.size := by rw [List.size_toArray, List.size_toArray]; show us.length = 0; omega
      refine SeqAt.RcNeAt.lists (e := fun _ => true) p1.isList p2.isList hsz hu (fun j h1 h2 => absurd h2 (by simp)) _ _ _ _ ⟨.bl false, H, I, ?_, ?_⟩
      · rw [show ((List.range us.toArray.size).all fun _ => true) = true from List.all_eq_true.mpr fun _ _ => rfl]; rfl
      · simpa [e] using q
    · refine SeqAt.RcNeAt.lists_lengths p1.isList p2.isList (by cases us with | nil => exact absurd l1 e | cons a r => rfl) hu _ _ _ _ ⟨.bl true, H, I, rfl, ?_⟩
      simpa [e] using q
  · obtain ⟨us, r1, p1, _⟩ := I.tuple ha
    obtain ⟨ws, r2, p2, _⟩ := I.tuple hb
    cases r2
    have l1 := r1.length
    refine SeqAt.RcNeAt.tuples (e := fun _ => true) p1 p2 hu (fun j h1 h2 => absurd h2 (by simp)) _ _ _ _ ⟨.bl (!decide (xs.length = 0)), H, I, ?_, ?_⟩
    · show Value.bool _ = Value.bool _
      rw [l1]; cases us <;> rfl
    · simpa using q
end
/-- what kind of sequence, and its items -/
def kindW (W : Hw) : T → Option (Bool × List T)
  | .tup ts => some (false, ts)
  | .rol ts => some (true, ts)
  | .ref a => match W a with | some (.lst ts) => some (true, ts) | _ => none
  | _ => none
section
variable {X : Cx} {Wx : WX}
theorem kindW_sq {K : PySem.W.Frag} {H : Hp} {W : Hw} {t : T} {v : V} {b : Bool} {xs : List T} (rp : Rep K H W) (r : RelT K H t v) (h : kindW W t = some (b, xs)) : ∃ a vs, v = .ref a ∧ (if b = true then SqL K H a vs else SqT K H a vs) ∧ RelTs K H xs vs := by
  cases t with
  | tup ts =>
    simp only [kindW, Option.some.injEq, Prod.mk.injEq] at h; obtain ⟨rfl, rfl⟩ := h
    simp only [RelT] at r
    obtain ⟨a, vs, rfl, e, r⟩ := r
    exact ⟨a, vs, rfl, .inl (.inl e), r⟩
  | rol ts =>
    simp only [kindW, Option.some.injEq, Prod.mk.injEq] at h; obtain ⟨rfl, rfl⟩ := h
    simp only [RelT] at r
    obtain ⟨a, vs, rfl, e, r⟩ := r
    exact ⟨a, vs, rfl, e.sq, r⟩
  | ref a =>
    simp only [RelT] at r
    subst r
    simp only [kindW] at h
    split at h
    · rename_i ts e
      simp only [Option.some.injEq, Prod.mk.injEq] at h; obtain ⟨rfl, rfl⟩ := h
      obtain ⟨vs, e1, r⟩ := rp a _ e
      exact ⟨a, vs, rfl, .inl (.inl e1), r⟩
    · cases h
  | non => simp [kindW] at h
  | bl b => simp [kindW] at h
  | int b => simp [kindW] at h
  | str b => simp [kindW] at h
  | ty b => simp [kindW] at h
/-- e == [] and the like -/
def wEmp (neg k : Bool) (te : TEw) : TEw := fun τ W R E => te τ W (fun t W1 => ∃ xs, kindW W1 t = some (k, xs) ∧ R (.bl (neg != decide (xs.length = 0))) W1) E
theorem pe_lst0 {X : Cx} {p : Pos} : PE X (.List [] p) (fun σ H Q => ∀ q, H q = none → Q (.ref q) (upd H q (.lst []))) := by
  refine PE.imp (pe_lst pa_nil) ?_
  intro σ H Q h
  exact ⟨by decide, h⟩
theorem pe_tup0 {X : Cx} {p : Pos} {n : Nat} : PE X (.Tuple [] n p) (fun σ H Q => ∀ q, H q = none → Q (.ref q) (upd H q (.tup []))) := by
  refine PE.imp (pe_tup pa_nil) ?_
  intro σ H Q h
  exact ⟨by decide, h⟩
theorem w_lst_eq {a : Expr} {te : TEw} {p pos : Pos} (hu : X.A.units < cLine) (ha : LE X Wx a te) : LE X Wx (.Compare a [.Eq] [.List [] p] pos) (wEmp false true te) := by
  refine PE.imp (pe_cmpR (op_eqE hu) ha (pe_lst0 (p := p)) (by first | exact nomark _ | rfl)) ?_
  rintro σ H Q ⟨τ, W, R, E, rs, rp, h, up, ux⟩
  refine lowE.go rs rp h (fun t W1 v H1 g r1 p1 h1 => ?_) ux
  obtain ⟨xs, hk, hr⟩ := h1
  intro q hq
  have gq : Grow X.K H1 (upd H1 q (.lst [])) := .new hq
  obtain ⟨c, vs, rfl, hs, rx⟩ := kindW_sq (p1.new (o := .lst []) hq) (r1.grow gq) hk
  refine ⟨c, q, vs, [], rfl, rfl, .inl ⟨by simpa using hs, .inl (.inl upd_same)⟩, rfl, up _ _ ⟨_, _, g.trans gq, rel_bl, p1.new hq, ?_⟩⟩
  rw [rx.len]; exact hr
theorem w_lst_ne {a : Expr} {te : TEw} {p pos : Pos} (hu : X.A.units < cLine) (ha : LE X Wx a te) : LE X Wx (.Compare a [.NotEq] [.List [] p] pos) (wEmp true true te) := by
  refine PE.imp (pe_cmpR (op_neE hu) ha (pe_lst0 (p := p)) (by first | exact nomark _ | rfl)) ?_
  rintro σ H Q ⟨τ, W, R, E, rs, rp, h, up, ux⟩
  refine lowE.go rs rp h (fun t W1 v H1 g r1 p1 h1 => ?_) ux
  obtain ⟨xs, hk, hr⟩ := h1
  intro q hq
  have gq : Grow X.K H1 (upd H1 q (.lst [])) := .new hq
  obtain ⟨c, vs, rfl, hs, rx⟩ := kindW_sq (p1.new (o := .lst []) hq) (r1.grow gq) hk
  refine ⟨c, q, vs, [], rfl, rfl, .inl ⟨by simpa using hs, .inl (.inl upd_same)⟩, rfl, up _ _ ⟨_, _, g.trans gq, rel_bl, p1.new hq, ?_⟩⟩
  rw [rx.len]; exact hr
theorem w_tup_eq {a : Expr} {te : TEw} {n : Nat} {p pos : Pos} (hu : X.A.units < cLine) (ha : LE X Wx a te) : LE X Wx (.Compare a [.Eq] [.Tuple [] n p] pos) (wEmp false false te) := by
  refine PE.imp (pe_cmpR (op_eqE hu) ha (pe_tup0 (p := p)) (by first | exact nomark _ | rfl)) ?_
  rintro σ H Q ⟨τ, W, R, E, rs, rp, h, up, ux⟩
  refine lowE.go rs rp h (fun t W1 v H1 g r1 p1 h1 => ?_) ux
  obtain ⟨xs, hk, hr⟩ := h1
  intro q hq
  have gq : Grow X.K H1 (upd H1 q (.tup [])) := .new hq
  obtain ⟨c, vs, rfl, hs, rx⟩ := kindW_sq (p1.new (o := .tup []) hq) (r1.grow gq) hk
  refine ⟨c, q, vs, [], rfl, rfl, .inr ⟨by simpa using hs, .inl (.inl upd_same)⟩, rfl, up _ _ ⟨_, _, g.trans gq, rel_bl, p1.new hq, ?_⟩⟩
  rw [rx.len]; exact hr
theorem w_tup_ne {a : Expr} {te : TEw} {n : Nat} {p pos : Pos} (hu : X.A.units < cLine) (ha : LE X Wx a te) : LE X Wx (.Compare a [.NotEq] [.Tuple [] n p] pos) (wEmp true false te) := by
  refine PE.imp (pe_cmpR (op_neE hu) ha (pe_tup0 (p := p)) (by first | exact nomark _ | rfl)) ?_
  rintro σ H Q ⟨τ, W, R, E, rs, rp, h, up, ux⟩
  refine lowE.go rs rp h (fun t W1 v H1 g r1 p1 h1 => ?_) ux
  obtain ⟨xs, hk, hr⟩ := h1
  intro q hq
  have gq : Grow X.K H1 (upd H1 q (.tup [])) := .new hq
  obtain ⟨c, vs, rfl, hs, rx⟩ := kindW_sq (p1.new (o := .tup []) hq) (r1.grow gq) hk
  refine ⟨c, q, vs, [], rfl, rfl, .inr ⟨by simpa using hs, .inl (.inl upd_same)⟩, rfl, up _ _ ⟨_, _, g.trans gq, rel_bl, p1.new hq, ?_⟩⟩
  rw [rx.len]; exact hr
theorem emp_lowL {neg : Bool} {te : TEw} {σ : L2.St} {H : Hp} {Q : VK} (h : lowE X.K Wx (wEmp neg true te) σ H Q) : tOp (rEqE X.K neg) (lowE X.K Wx te) (fun σ H Q => ∀ q, H q = none → Q (.ref q) (upd H q (.lst []))) σ H Q := by
  obtain ⟨τ, W, R, E, rs, rp, h, up, ux⟩ := h
  refine lowE.go rs rp h (fun t W1 v H1 g r1 p1 h1 => ?_) ux
  obtain ⟨xs, hk, hr⟩ := h1
  intro q hq
  have gq : Grow X.K H1 (upd H1 q (.lst [])) := .new hq
  obtain ⟨c, vs, rfl, hs, rx⟩ := kindW_sq (p1.new (o := .lst []) hq) (r1.grow gq) hk
  refine ⟨c, q, vs, [], rfl, rfl, .inl ⟨by simpa using hs, .inl (.inl upd_same)⟩, rfl, up _ _ ⟨_, _, g.trans gq, rel_bl, p1.new hq, ?_⟩⟩
  rw [rx.len]; exact hr
theorem emp_lowT {neg : Bool} {te : TEw} {σ : L2.St} {H : Hp} {Q : VK} (h : lowE X.K Wx (wEmp neg false te) σ H Q) : tOp (rEqE X.K neg) (lowE X.K Wx te) (fun σ H Q => ∀ q, H q = none → Q (.ref q) (upd H q (.tup []))) σ H Q := by
  obtain ⟨τ, W, R, E, rs, rp, h, up, ux⟩ := h
  refine lowE.go rs rp h (fun t W1 v H1 g r1 p1 h1 => ?_) ux
  obtain ⟨xs, hk, hr⟩ := h1
  intro q hq
  have gq : Grow X.K H1 (upd H1 q (.tup [])) := .new hq
  obtain ⟨c, vs, rfl, hs, rx⟩ := kindW_sq (p1.new (o := .tup []) hq) (r1.grow gq) hk
  refine ⟨c, q, vs, [], rfl, rfl, .inr ⟨by simpa using hs, .inl (.inl upd_same)⟩, rfl, up _ _ ⟨_, _, g.trans gq, rel_bl, p1.new hq, ?_⟩⟩
  rw [rx.len]; exact hr
theorem lt_lst_eq {a : Expr} {te : TEw} {p pos : Pos} (hu : X.A.units < cLine) (ha : LE X Wx a te) : LT X Wx (.Compare a [.Eq] [.List [] p] pos) (wTest (wEmp false true te)) :=
  PT.imp (pt_cmpR (op_eqE hu) ha (pe_lst0 (p := p)) (by first | exact nomark _ | rfl)) fun σ H Q h => emp_lowL (wTest_low h)
theorem lt_lst_ne {a : Expr} {te : TEw} {p pos : Pos} (hu : X.A.units < cLine) (ha : LE X Wx a te) : LT X Wx (.Compare a [.NotEq] [.List [] p] pos) (wTest (wEmp true true te)) :=
  PT.imp (pt_cmpR (op_neE hu) ha (pe_lst0 (p := p)) (by first | exact nomark _ | rfl)) fun σ H Q h => emp_lowL (wTest_low h)
theorem lt_tup_eq {a : Expr} {te : TEw} {n : Nat} {p pos : Pos} (hu : X.A.units < cLine) (ha : LE X Wx a te) : LT X Wx (.Compare a [.Eq] [.Tuple [] n p] pos) (wTest (wEmp false false te)) :=
  PT.imp (pt_cmpR (op_eqE hu) ha (pe_tup0 (p := p)) (by first | exact nomark _ | rfl)) fun σ H Q h => emp_lowT (wTest_low h)
theorem lt_tup_ne {a : Expr} {te : TEw} {n : Nat} {p pos : Pos} (hu : X.A.units < cLine) (ha : LE X Wx a te) : LT X Wx (.Compare a [.NotEq] [.Tuple [] n p] pos) (wTest (wEmp true false te)) :=
  PT.imp (pt_cmpR (op_neE hu) ha (pe_tup0 (p := p)) (by first | exact nomark _ | rfl)) fun σ H Q h => emp_lowT (wTest_low h)
end
end TL

set_option Elab.async false
set_option linter.all false
set_option maxRecDepth 100000
set_option maxHeartbeats 4000000
/-! list(zip(a, b)): the zip object drained into a list, its tuples kept -/
namespace PySem.TLZ
open PySem
section
variable {prog : Program} {w : World} {A : Around} {E : Value → Shared → Prop} {s : Shared} {z TI TO i1 i2 : Addr} {fp1 fp2 : List Addr} {n i : Nat} {P1 P2 : Nat → Value → Prop} {St1 St2 : Nat → Heap → Prop}

theorem next_held {T : Addr} {f : Bool} {oT : Obj} {Q : Value → Shared → Prop} (S : ZipSep2 z TI TO i1 i2 fp1 fp2) (D1 : Draws prog w A i1 fp1 n P1 St1) (D2 : Draws prog w A i2 fp2 n P2 St2)
    (hz : IsZipHeld s.heap z TI TO T f) (hT : s.heap.get? T = some oT) (hTI : IsTupOf2 s.heap TI (.ref i1) (.ref i2)) (st1 : St1 i s.heap) (st2 : St2 i s.heap) (hlt : i < n)
    (hQ : ∀ x1 x2 h' tk, P1 i x1 → P2 i x2 → IsZipHeld h' z TI TO T true → St1 (i + 1) h' → St2 (i + 1) h' → IsTupOf2 h' s.heap.objs.size x1 x2 → h'.objs.size = s.heap.objs.size + 1 →
      (∀ c o, c ≠ z → c ≠ i1 → c ≠ i2 → s.heap.get? c = some o → h'.get? c = some o) → Q (.ref s.heap.objs.size) { s with heap := h', toks := tk }) :
    wpAny (model prog w) A (Builtin.«zip.__next__» ⟨[.ref z], []⟩) (fun fin s' => ∃ v, fin = .done (.ret v) ∧ Q v s') E s := by
  obtain ⟨hp, g, d, tk0, os⟩ := s
  show wpAny _ _ (field (.ref z) 2 >>= _) _ _ _
  refine wpAny_bind (wpAny_field hz rfl (x := .bool false) rfl ?_)
  show wpAny _ _ (field (.ref z) 3 >>= _) _ _ _
  refine wpAny_bind (wpAny_field hz rfl (x := .ref TI) rfl ?_)
  refine wpAny_bind (wpAny_seqItems hTI rfl ?_)
  show wpAny _ _ (Builtin.SmallTypes.ownedTupleIsFree (.ref z) >>= _) _ _ _
  refine wpAny_bind (wpAny_tupleHeld_zip hz hT fun g0 hz0 hs0 => ?_)
  simp only [Bool.false_eq_true, if_false]
  refine wpAny_bind ?_
  rw [← Array.forIn_toList]
  simp only [List.forIn_cons, List.forIn_nil]
  refine wpAny_bind (wpAny_bind (wpAny_holding ?_))
  show wpAny _ _ (Builtin.SmallTypes.nextOf (.ref i1) >>= _) _ _ ⟨g0, g, d, tk0, os⟩
  refine wpAny_bind (D1.item i _ _ _ hlt (D1.over st1 hs0 S.zf1) fun x1 p1 tk1 hx1 sn1 hp1 => wpAny_pure ?_)
  replace hp1 : Heap.SameBut i1 g0 p1 := hp1
  refine wpAny_pure ?_
  refine wpAny_bind (wpAny_bind (wpAny_holding ?_))
  show wpAny _ _ (Builtin.SmallTypes.nextOf (.ref i2) >>= _) _ _ ⟨p1, g, d, tk1, os⟩
  refine wpAny_bind (D2.item i _ _ _ hlt (D2.over (D2.over st2 hs0 S.zf2) hp1 S.sep1_2) fun x2 p2 tk2 hx2 sn2 hp2 => wpAny_pure ?_)
  replace hp2 : Heap.SameBut i2 p1 p2 := hp2
  refine wpAny_pure (wpAny_pure ?_)
  show wpAny _ _ (newTuple [x1, x2] >>= _) _ _ ⟨p2, g, d, tk2, os⟩
  refine wpAny_bind (wpAny_newTuple ?_)
  have hsz : p2.objs.size = hp.objs.size := by rw [hp2.1, hp1.1, hs0.1]
  have hz3 : IsZipHeld p2 z TI TO T true := hp2.extBut _ _ S.zi2 (hp1.extBut _ _ S.zi1 hz0)
  have hk : ∀ c o, c ≠ z → c ≠ i1 → c ≠ i2 → hp.get? c = some o → p2.get? c = some o := fun c o c1 c2 c3 e => hp2.extBut _ _ c3 (hp1.extBut _ _ c2 (hs0.extBut _ _ c1 e))
  have sn1' : St1 (i + 1) p2 := D1.over sn1 hp2 S.sep2_1
  refine wpAny_pure ⟨_, rfl, ?_⟩
  show Q (.ref p2.objs.size) _
  have hpr : IsTupOf2 (p2.push { cls := .type "tuple", data := .seq #[x1, x2] }) p2.objs.size x1 x2 := Heap.get?_push_size _ rfl
  have hz4 : (p2.push { cls := .type "tuple", data := .seq #[x1, x2] }).objs.size = p2.objs.size + 1 := Heap.size_push ..
  rw [hsz] at hpr hz4 ⊢
  exact hQ x1 x2 _ _ hx1 hx2 (Heap.get?_push_of_some _ hz3) (D1.frame _ _ _ sn1' fun b hb o e => Heap.get?_push_of_some _ e) (D2.frame _ _ _ sn2 fun b hb o e => Heap.get?_push_of_some _ e) hpr hz4 fun c o c1 c2 c3 e => Heap.get?_push_of_some _ (hk c o c1 c2 c3 e)

theorem end_held {T : Addr} {f : Bool} {oT : Obj} {Q : Fin → Shared → Prop} (S : ZipSep2 z TI TO i1 i2 fp1 fp2) (D1 : Draws prog w A i1 fp1 n P1 St1)
    (hz : IsZipHeld s.heap z TI TO T f) (hT : s.heap.get? T = some oT) (hTI : IsTupOf2 s.heap TI (.ref i1) (.ref i2)) (st1 : St1 n s.heap)
    (hE : ∀ h' tk e, (∀ c o, c ≠ z → c ≠ i1 → c ≠ i2 → s.heap.get? c = some o → h'.get? c = some o) → (∃ o, h'.get? e = some o ∧ o.cls = .type "StopIteration") → E (.ref e) { s with heap := h', toks := tk }) :
    wpAny (model prog w) A (Builtin.«zip.__next__» ⟨[.ref z], []⟩) Q E s := by
  obtain ⟨hp, g, d, tk0, os⟩ := s
  show wpAny _ _ (field (.ref z) 2 >>= _) _ _ _
  refine wpAny_bind (wpAny_field hz rfl (x := .bool false) rfl ?_)
  show wpAny _ _ (field (.ref z) 3 >>= _) _ _ _
  refine wpAny_bind (wpAny_field hz rfl (x := .ref TI) rfl ?_)
  refine wpAny_bind (wpAny_seqItems hTI rfl ?_)
  show wpAny _ _ (Builtin.SmallTypes.ownedTupleIsFree (.ref z) >>= _) _ _ _
  refine wpAny_bind (wpAny_tupleHeld_zip hz hT fun g0 hz0 hs0 => ?_)
  simp only [Bool.false_eq_true, if_false]
  refine wpAny_bind ?_
  rw [← Array.forIn_toList]
  simp only [List.forIn_cons, List.forIn_nil]
  refine wpAny_bind (wpAny_bind (wpAny_holding ?_))
  show wpAny _ _ (Builtin.SmallTypes.nextOf (.ref i1) >>= _) _ _ ⟨g0, g, d, tk0, os⟩
  refine wpAny_bind (D1.done ⟨g0, g, d, tk0, os⟩ _ _ (D1.over st1 hs0 S.zf1) fun q e hq he => ?_)
  exact hE q tk0 e (fun c o c1 c2 _ x => hq _ _ c2 (hs0.extBut _ _ c1 x)) he

/-- how a zip stands between two turns -/
def ZSt (St1 St2 : Nat → Heap → Prop) (z TI TO i1 i2 S : Addr) (i : Nat) (h : Heap) : Prop :=
  IsTupOf2 h TI (.ref i1) (.ref i2) ∧ St1 i h ∧ St2 i h ∧ ((IsZip h z TI TO .none ∧ ∃ a b, IsTupOf2 h TO a b) ∨ ∃ T f oT, IsZipHeld h z TI TO T f ∧ h.get? T = some oT ∧ T ≠ z ∧ T ≠ i1 ∧ T ≠ i2 ∧ T ≠ S)
theorem ZSt.keep {A' : Around} {S : Addr} {h h' : Heap} (Z : ZipSep2 z TI TO i1 i2 fp1 fp2) (D1 : Draws prog w A i1 fp1 n P1 St1) (D2 : Draws prog w A i2 fp2 n P2 St2) (st : ZSt St1 St2 z TI TO i1 i2 S i h) (hk : ∀ b o, b ≠ S → h.get? b = some o → h'.get? b = some o)
    (n1 : TI ≠ S) (n2 : z ≠ S) (n3 : TO ≠ S) (f1 : S ∉ fp1) (f2 : S ∉ fp2) : ZSt St1 St2 z TI TO i1 i2 S i h' := by
  obtain ⟨hTI, s1, s2, r⟩ := st
  refine ⟨hk _ _ n1 hTI, D1.frame _ _ _ s1 fun b hb o e => hk b o (fun q => f1 (q ▸ hb)) e, D2.frame _ _ _ s2 fun b hb o e => hk b o (fun q => f2 (q ▸ hb)) e, ?_⟩
  rcases r with ⟨hz, a, b, hTO⟩ | ⟨T, f, oT, hz, hT, r1, r2, r3, r4⟩
  · exact .inl ⟨hk _ _ n2 hz, a, b, hk _ _ n3 hTO⟩
  · exact .inr ⟨T, f, oT, hk _ _ n2 hz, hk _ _ r4 hT, r1, r2, r3, r4⟩
theorem z_item {S : Addr} {Q : Option Value → Shared → Prop} (Z : ZipSep2 z TI TO i1 i2 fp1 fp2) (D1 : Draws prog w A.in1 i1 fp1 n P1 St1) (D2 : Draws prog w A.in1 i2 fp2 n P2 St2) (st : ZSt St1 St2 z TI TO i1 i2 S i s.heap) (hS : S < s.heap.objs.size) (hlt : i < n)
    (hQ : ∀ x1 x2 h' tk, P1 i x1 → P2 i x2 → ZSt St1 St2 z TI TO i1 i2 S (i + 1) h' → IsTupOf2 h' s.heap.objs.size x1 x2 → h'.objs.size = s.heap.objs.size + 1 →
      (∀ c o, c ≠ z → c ≠ TO → c ≠ i1 → c ≠ i2 → s.heap.get? c = some o → h'.get? c = some o) → Q (some (.ref s.heap.objs.size)) { s with heap := h', toks := tk }) :
    wpAny (model prog w) A (pyNext (.ref z)) Q E s := by
  obtain ⟨hTI, s1, s2, r⟩ := st
  have lt : ∀ {c o}, s.heap.get? c = some o → s.heap.objs.size ≠ c := fun e => Nat.ne_of_gt (Heap.lt_size e)
  have l1 : s.heap.objs.size ≠ i1 := by obtain ⟨_, e⟩ := D1.live _ _ s1; exact lt e
  have l2 : s.heap.objs.size ≠ i2 := by obtain ⟨_, e⟩ := D2.live _ _ s2; exact lt e
  rcases r with ⟨hz, a, b, hTO⟩ | ⟨T, f, oT, hz, hT, r1, r2, r3, r4⟩
  · refine wpAny_pyNext_zipD2_item Z D1 D2 hz hTI hTO s1 s2 hlt hlt fun x1 x2 h' tk y1 y2 b1 b2 d1 d2 b5 b6 hk => ?_
    exact hQ x1 x2 h' tk y1 y2 ⟨hk _ _ Z.TIz Z.TITO Z.TIi1 Z.TIi2 hTI, d1, d2, .inr ⟨_, false, _, b1, b5, lt hz, l1, l2, Nat.ne_of_gt hS⟩⟩ b5 b6 hk
  · have hTy : s.TypeIs (.ref z) "zip" := ⟨_, hz, rfl⟩
    unfold pyNext
    refine wpAny_bind (wpAny_attempt (wpAny_callSpecial?_slot (name := Str.ofString "__next__") hTy F.slot_zip_next
      (wpAny_call_entry F.slot_zip_next hTy F.entry_zip_next
        (next_held Z D1 D2 hz hT hTI s1 s2 hlt fun x1 x2 h' tk y1 y2 b1 d1 d2 b5 b6 hk => wpAny_pure ?_) (F.args_zip_next_1 _))))
    exact hQ x1 x2 h' tk y1 y2 ⟨hk _ _ Z.TIz Z.TIi1 Z.TIi2 hTI, d1, d2, .inr ⟨T, true, oT, b1, hk _ _ r1 r2 r3 hT, r1, r2, r3, r4⟩⟩ b5 b6 fun c o c1 _ c2 c3 e => hk c o c1 c2 c3 e
theorem z_done {S : Addr} {Q : Option Value → Shared → Prop} (Z : ZipSep2 z TI TO i1 i2 fp1 fp2) (D1 : Draws prog w A.in1 i1 fp1 n P1 St1) (D2 : Draws prog w A.in1 i2 fp2 n P2 St2) (st : ZSt St1 St2 z TI TO i1 i2 S n s.heap)
    (hQ : ∀ h' tk, (∀ c o, c ≠ z → c ≠ TO → c ≠ i1 → c ≠ i2 → s.heap.get? c = some o → h'.get? c = some o) → Q none { s with heap := h', toks := tk }) :
    wpAny (model prog w) A (pyNext (.ref z)) Q E s := by
  obtain ⟨hTI, s1, s2, r⟩ := st
  rcases r with ⟨hz, a, b, hTO⟩ | ⟨T, f, oT, hz, hT, r1, r2, r3, r4⟩
  · exact wpAny_pyNext_zipD2_end Z D1 D2 hz hTI hTO s1 s2 (Nat.le_refl _) (Nat.le_refl _) (.inl rfl) fun h' tk hk => hQ h' tk hk
  · have hTy : s.TypeIs (.ref z) "zip" := ⟨_, hz, rfl⟩
    unfold pyNext
    refine wpAny_bind (wpAny_attempt (wpAny_callSpecial?_slot (name := Str.ofString "__next__") hTy F.slot_zip_next
      (wpAny_call_entry F.slot_zip_next hTy F.entry_zip_next (end_held Z D1 hz hT hTI s1 fun h' tk e hk he => ?_) (F.args_zip_next_1 _))))
    obtain ⟨o, ho, hc⟩ := he
    refine wpAny_bind (wpAny_isInstance (T := "StopIteration") (b := true) ⟨o, ho, hc⟩ isSubtype_stop ?_)
    exact wpAny_pure (hQ _ _ fun c o c1 _ c2 c3 e => hk c o c1 c2 c3 e)

/-- the pairs that were given out -/
structure ZG (P1 P2 : Nat → Value → Prop) (lo : Addr) (h : Heap) (as : List Addr) : Prop where
  rise : as.Pairwise (· < ·)
  above : ∀ a ∈ as, lo < a
  pairs : ∀ (j : Nat) (a : Addr), as[j]? = some a → ∃ x y, P1 j x ∧ P2 j y ∧ h.get? a = some { cls := .type "tuple", data := .seq #[x, y] }
theorem ZG.there {lo : Addr} {h : Heap} {as : List Addr} (g : ZG P1 P2 lo h as) {a : Addr} (ha : a ∈ as) : a < h.objs.size := by
  obtain ⟨j, hj⟩ := List.mem_iff_getElem?.mp ha
  obtain ⟨_, _, _, _, e⟩ := g.pairs j a hj
  exact Heap.lt_size e
theorem ZG.low {lo lo' : Addr} {h : Heap} {as : List Addr} (g : ZG P1 P2 lo h as) (hl : lo' ≤ lo) : ZG P1 P2 lo' h as := ⟨g.rise, fun a ha => Nat.lt_of_le_of_lt hl (g.above a ha), g.pairs⟩

theorem z_loop {R : Result → Shared → Prop} {S : Addr} (Z : ZipSep2 z TI TO i1 i2 fp1 fp2) (D1 : Draws prog w A.in1.in1 i1 fp1 n P1 St1) (D2 : Draws prog w A.in1.in1 i2 fp2 n P2 St2) (nTI : TI ≠ S) (nz : z ≠ S) (nTO : TO ≠ S) (f1 : S ∉ fp1) (f2 : S ∉ fp2) (hn : n ≤ sizeLine) (res : Value) (lo : Addr) {h₁ : Heap} (hlS : S ≤ lo) (lz : z ≤ lo) (lTO : TO ≤ lo) (li1 : i1 ≤ lo) (li2 : i2 ≤ lo)
    (hR : ∀ h' tk acc c as, (∀ b o, b ≠ S → b ≠ z → b ≠ TO → b ≠ i1 → b ≠ i2 → h₁.get? b = some o → h'.get? b = some o) → h'.get? S = some { cls := .type "list", dict := none, data := .seq acc c, slots := #[] } → as.length = n → ZG P1 P2 lo h' as →
      acc.toList = as.map Value.ref → R (.ok (.ret res)) { s with heap := h', toks := tk }) :
    ∀ (k i : Nat) (h : Heap) (tk c : Nat) (acc : Array Value) (as : List Addr), n - i = k → i ≤ n → ZSt St1 St2 z TI TO i1 i2 S i h → (∀ b o, b ≠ S → b ≠ z → b ≠ TO → b ≠ i1 → b ≠ i2 → h₁.get? b = some o → h.get? b = some o) →
      h.get? S = some { cls := .type "list", dict := none, data := .seq acc c, slots := #[] } → acc.toList = as.map Value.ref → as.length = i → ZG P1 P2 lo h as → lo < h.objs.size →
      codeAny (model prog w) A (.builtin "list.extend.loop" ⟨[.ref S, .ref z, res], []⟩) R { s with heap := h, toks := tk } := by
  have hS1 : i1 ≠ S := fun e => f1 (e ▸ Z.mem1)
  have hS2 : i2 ≠ S := fun e => f2 (e ▸ Z.mem2)
  intro k
  induction k with
  | zero =>
    intro i h tk c acc as hk hi hst hkeep hS hacc hal hG hIs
    have hin : i = n := by omega
    subst hin
    refine codeAny_builtin PySem.F.entry_extend_loop ?_
    rw [Around.under_plainId PySem.F.plain_extend_loop _]
    show wpAny _ A.in1 (pyNext (.ref z) >>= _) _ _ _
    refine wpAny_bind (z_done (s := { s with heap := h, toks := tk }) (A := A.in1) Z D1 D2 hst fun h' tk' he => ?_)
    refine wpAny_pure (hR h' tk' acc c as (fun b o h1 h2 h3 h4 h5 e => he b o h2 h3 h4 h5 (hkeep b o h1 h2 h3 h4 h5 e)) (he S _ nz.symm nTO.symm hS1.symm hS2.symm hS) hal ⟨hG.rise, hG.above, fun j a hj => ?_⟩ hacc)
    obtain ⟨x, y, e1, e2, e3⟩ := hG.pairs j a hj
    have ha := hG.above a (List.mem_of_getElem? hj)
    exact ⟨x, y, e1, e2, he a _ (Nat.ne_of_gt (Nat.lt_of_le_of_lt lz ha)) (Nat.ne_of_gt (Nat.lt_of_le_of_lt lTO ha)) (Nat.ne_of_gt (Nat.lt_of_le_of_lt li1 ha)) (Nat.ne_of_gt (Nat.lt_of_le_of_lt li2 ha)) e3⟩
  | succ k ih =>
    intro i h tk c acc as hk hi hst hkeep hS hacc hal hG hIs
    have hlt : i < n := by omega
    have hsz : acc.size = i := by rw [← Array.length_toList, hacc, List.length_map, hal]
    refine codeAny_builtin PySem.F.entry_extend_loop ?_
    rw [Around.under_plainId PySem.F.plain_extend_loop _]
    show wpAny _ A.in1 (pyNext (.ref z) >>= _) _ _ _
    refine wpAny_bind (z_item (s := { s with heap := h, toks := tk }) (S := S) (A := A.in1) Z D1 D2 hst (Heap.lt_size hS) hlt fun x1 x2 h' tk' y1 y2 hst' ht hz hkp => ?_)
    dsimp only at ht hz hkp ⊢
    have hS' := hkp S _ nz.symm nTO.symm hS1.symm hS2.symm hS
    have up : ∀ b o, b ≠ S → h'.get? b = some o → (h'.update S (Obj.mapSeq (·.push (Value.ref h.objs.size)))).get? b = some o := fun b o hb e => (Heap.get?_update_other _ _ (Ne.symm hb)).trans e
    have hSl : S < h.objs.size := Heap.lt_size hS
    show wpAny _ A.in1 (updateSeq S (·.push (Value.ref h.objs.size)) >>= _) _ _ _
    refine wpAny_bind ?_
    refine wpAny_updateSeq hS' rfl (wpAny_pure ⟨plainId_quiet PySem.F.plain_extend_loop _, ih (i + 1) _ tk' _ (acc.push (Value.ref h.objs.size)) (as ++ [h.objs.size]) (by omega) hlt (ZSt.keep (A' := A) Z D1 D2 hst' up nTI nz nTO f1 f2)
      (fun b o h1 h2 h3 h4 h5 e => up b o h1 (hkp b o h2 h3 h4 h5 (hkeep b o h1 h2 h3 h4 h5 e))) (Heap.get?_update_self _ hS' rfl) (by rw [Array.toList_push, hacc, List.map_append]; rfl) (by rw [List.length_append, hal]; rfl) ⟨?_, ?_, ?_⟩ ?_⟩) (by rw [hsz]; omega) (by show (acc.push (Value.ref h.objs.size)).size ≤ sizeLine + 1; rw [Array.size_push, hsz]; omega)
    · refine List.pairwise_append.mpr ⟨hG.rise, List.pairwise_singleton _ _, fun a ha b hb => ?_⟩
      rw [List.mem_singleton.mp hb]
      exact hG.there ha
    · intro a ha
      rcases List.mem_append.mp ha with ha | ha
      · exact hG.above a ha
      · rw [List.mem_singleton.mp ha]; exact hIs
    · intro j b hj
      rcases Nat.lt_trichotomy j as.length with h1 | h1 | h1
      · rw [List.getElem?_append_left h1] at hj
        obtain ⟨x', y', e1, e2, e3⟩ := hG.pairs j b hj
        have hb := hG.above b (List.mem_of_getElem? hj)
        exact ⟨x', y', e1, e2, up b _ (Nat.ne_of_gt (Nat.lt_of_le_of_lt hlS hb)) (hkp b _ (Nat.ne_of_gt (Nat.lt_of_le_of_lt lz hb)) (Nat.ne_of_gt (Nat.lt_of_le_of_lt lTO hb)) (Nat.ne_of_gt (Nat.lt_of_le_of_lt li1 hb)) (Nat.ne_of_gt (Nat.lt_of_le_of_lt li2 hb)) e3)⟩
      · subst h1
        have hb : h.objs.size = b := by simpa using hj
        subst hb
        exact ⟨x1, x2, by rw [hal]; exact y1, by rw [hal]; exact y2, up _ _ (Nat.ne_of_gt hSl) ht⟩
      · have hnone : (as ++ [h.objs.size])[j]? = none := List.getElem?_eq_none (by rw [List.length_append, List.length_singleton]; omega)
        rw [hnone] at hj; cases hj
    · have e : (h'.update S (Obj.mapSeq (·.push (Value.ref h.objs.size)))).get? h.objs.size = _ := up _ _ (Nat.ne_of_gt hSl) ht
      exact Nat.lt_trans hIs (Heap.lt_size e)
end
theorem nolen_zip : typeLookup (.type "zip") "__len__" = pure none := by rw [typeLookup_type, builtinLookup_eq_fast]; kernel_rfl
theorem nohint_zip : typeLookup (.type "zip") "__length_hint__" = pure none := by rw [typeLookup_type, builtinLookup_eq_fast]; kernel_rfl
section
variable {prog : Program} {w : World} {A : Around} {E : Value → Shared → Prop} {s : Shared} {z TI TO i1 i2 : Addr} {fp1 fp2 : List Addr} {n i : Nat} {P1 P2 : Nat → Value → Prop} {St1 St2 : Nat → Heap → Prop}
theorem z_extend {R : Result → Shared → Prop} {S : Addr} {x0 y0 : Value} (Z : ZipSep2 z TI TO i1 i2 fp1 fp2) (D1 : Draws prog w A.in1.in1 i1 fp1 n P1 St1) (D2 : Draws prog w A.in1.in1 i2 fp2 n P2 St2) (hTI : IsTupOf2 s.heap TI (.ref i1) (.ref i2)) (s1 : St1 0 s.heap) (s2 : St2 0 s.heap) (hz : IsZip s.heap z TI TO .none) (hTO : IsTupOf2 s.heap TO x0 y0)
    (lTI : TI < S) (lz : z < S) (lTO : TO < S) (l1 : i1 < S) (l2 : i2 < S) (f1 : S ∉ fp1) (f2 : S ∉ fp2) (res : Value) (c₀ : Nat) (hS : s.heap.get? S = some { cls := .type "list", data := .seq #[] c₀ })
    (hR : ∀ h' tk acc c as, (∀ b o, b ≠ S → b ≠ z → b ≠ TO → b ≠ i1 → b ≠ i2 → s.heap.get? b = some o → h'.get? b = some o) → h'.get? S = some { cls := .type "list", dict := none, data := .seq acc c, slots := #[] } → as.length = n → ZG P1 P2 S h' as →
      acc.toList = as.map Value.ref → R (.ok (.ret res)) { s with heap := h', toks := tk }) (hn : n ≤ sizeLine) :
    wpAny (model prog w) A.in1 (Builtin.List.listExtendWith (.ref S) (.ref z) res)
      (fun fin s' => match fin with | .done f => R (.ok f) s' | .again c' => c'.quiet = true ∧ codeAny (model prog w) A c' R s') (fun e s' => R (.error e) s') s := by
  have hzt : s.TypeIs (.ref z) "zip" := ⟨_, hz, rfl⟩
  have nz : z ≠ S := Nat.ne_of_lt lz
  have st : ZSt St1 St2 z TI TO i1 i2 S 0 s.heap := ⟨hTI, s1, s2, .inl ⟨hz, _, _, hTO⟩⟩
  have key : ∀ (h : Heap) (c₁ tk : Nat), (∀ b o, b ≠ S → s.heap.get? b = some o → h.get? b = some o) →
      h.get? S = some { cls := .type "list", data := .seq #[] c₁ } → codeAny (model prog w) A (.builtin "list.extend.loop" ⟨[.ref S, .ref z, res], []⟩) R { s with heap := h, toks := tk } := by
    intro h c₁ tk hk hS₁
    refine z_loop (s := s) (h₁ := s.heap) Z D1 D2 (Nat.ne_of_lt lTI) nz (Nat.ne_of_lt lTO) f1 f2 hn res S (Nat.le_refl _) (Nat.le_of_lt lz) (Nat.le_of_lt lTO) (Nat.le_of_lt l1) (Nat.le_of_lt l2) (fun h' tk' acc c as hk' hS' hl hG hacc => hR h' tk' acc c as hk' hS' hl hG hacc)
      n 0 h tk c₁ #[] [] (Nat.sub_zero _) (Nat.zero_le _) (ZSt.keep (A' := A) Z D1 D2 st hk (Nat.ne_of_lt lTI) nz (Nat.ne_of_lt lTO) f1 f2) (fun b o hb _ _ _ _ e => hk b o hb e) hS₁ rfl rfl
      ⟨List.Pairwise.nil, (fun _ ha => nomatch ha), (fun j a hj => by simp at hj)⟩ (Heap.lt_size hS₁)
  unfold Builtin.List.listExtendWith
  refine wpAny_bind (wpAny_typeOf (T := "zip") hzt ?_)
  have h1 : Builtin.List.listSameRef (.ref S) (.ref z) = false := by simp [Builtin.List.listSameRef, nz.symm]
  have h2 : (Value.type "zip" == Value.type "list") = false := by decide
  have h3 : (Value.type "zip" == Value.type "tuple") = false := by decide
  simp only [h1, h2, h3, Bool.or_false, Bool.false_eq_true, if_false]
  refine wpAny_bind (wpAny_pyIter_zip hz ?_)
  refine wpAny_bind (wpAny_holding ?_)
  unfold Builtin.List.listLengthHint
  refine wpAny_bind (wpAny_specialOf hzt nolen_zip ?_)
  show wpAny _ A.in1 (specialOf (Value.ref z) (Str.ofString "__length_hint__") >>= _) _ _ _
  refine wpAny_bind (wpAny_specialOf hzt nohint_zip ?_)
  refine wpAny_pure ?_
  show wpAny _ A.in1 (rule "list.extend.makes-room" >>= fun _ => Builtin.List.listTouch (.ref S) >>= fun _ =>
    again (.builtin "list.extend.loop" ⟨[.ref S, .ref z, res], []⟩)) _ _ _
  refine wpAny_bind (wpAny_rule ?_)
  refine wpAny_bind ?_
  show wpAny _ _ (updateSeq S (·.push .none) >>= fun _ => updateSeq S (·.pop)) _ _ _
  refine wpAny_bind (wpAny_updateSeq hS rfl ?_)
  have hS₂ := Heap.get?_update_self (Obj.mapSeq (·.push Value.none)) hS rfl
  refine wpAny_updateSeq (hz := by seq_fits) hS₂ rfl ?_
  have hS₃ := Heap.get?_update_self (Obj.mapSeq (·.pop)) hS₂ rfl
  refine wpAny_pure ⟨plainId_quiet PySem.F.plain_extend_loop _, key _ _ _ (fun b o hb e => ?_) hS₃⟩
  exact (Heap.get?_update_other _ _ (Ne.symm hb)).trans ((Heap.get?_update_other _ _ (Ne.symm hb)).trans e)
theorem z_init {R : Result → Shared → Prop} {S : Addr} {x0 y0 : Value} (Z : ZipSep2 z TI TO i1 i2 fp1 fp2) (D1 : Draws prog w A.in1.in1 i1 fp1 n P1 St1) (D2 : Draws prog w A.in1.in1 i2 fp2 n P2 St2) (hTI : IsTupOf2 s.heap TI (.ref i1) (.ref i2)) (s1 : St1 0 s.heap) (s2 : St2 0 s.heap) (hz : IsZip s.heap z TI TO .none) (hTO : IsTupOf2 s.heap TO x0 y0)
    (lTI : TI < S) (lz : z < S) (lTO : TO < S) (l1 : i1 < S) (l2 : i2 < S) (f1 : S ∉ fp1) (f2 : S ∉ fp2) (hS : s.heap.get? S = some { cls := .type "list", data := .seq #[] })
    (hR : ∀ h' tk acc c as, (∀ b o, b ≠ S → b ≠ z → b ≠ TO → b ≠ i1 → b ≠ i2 → s.heap.get? b = some o → h'.get? b = some o) → h'.get? S = some { cls := .type "list", dict := none, data := .seq acc c, slots := #[] } → as.length = n → ZG P1 P2 S h' as →
      acc.toList = as.map Value.ref → R (.ok (.ret .none)) { s with heap := h', toks := tk }) (hn : n ≤ sizeLine) :
    wpAny (model prog w) A.in1 (Builtin.«list.__init__» ⟨[.ref S, .ref z], []⟩)
      (fun fin s' => match fin with | .done f => R (.ok f) s' | .again c' => c'.quiet = true ∧ codeAny (model prog w) A c' R s') (fun e s' => R (.error e) s') s := by
  show wpAny _ _ (do let old ← Builtin.List.listItems (.ref S); Builtin.List.listUpdate (.ref S) (fun _ => #[]); letGo old.toList.reverse; Builtin.List.listExtendWith (.ref S) (.ref z) .none) _ _ s
  refine wpAny_bind ?_
  unfold Builtin.List.listItems
  refine wpAny_bind (wpAny_seqItems hS rfl (wpAny_pure ?_))
  show wpAny _ _ (updateSeq S (fun _ => #[]) >>= fun _ => letGo (#[] : Array Value).toList.reverse >>= fun _ => Builtin.List.listExtendWith (.ref S) (.ref z) .none) _ _ s
  refine wpAny_bind (wpAny_updateSeq hS rfl ?_)
  have hS₂ := Heap.get?_update_self (Obj.mapSeq (fun _ => (#[] : Array Value))) hS rfl
  have oth : ∀ b o, b ≠ S → s.heap.get? b = some o → (s.heap.update S (Obj.mapSeq (fun _ => (#[] : Array Value)))).get? b = some o :=
    fun b o hb e => (Heap.get?_update_other _ _ (Ne.symm hb)).trans e
  refine wpAny_bind (wpAny_letGo ?_)
  refine z_extend Z D1 D2 (oth _ _ (Nat.ne_of_lt lTI) hTI) (D1.frame _ _ _ s1 fun b hb o e => oth b o (fun q => f1 (q ▸ hb)) e) (D2.frame _ _ _ s2 fun b hb o e => oth b o (fun q => f2 (q ▸ hb)) e) (oth _ _ (Nat.ne_of_lt lz) hz) (oth _ _ (Nat.ne_of_lt lTO) hTO) lTI lz lTO l1 l2 f1 f2 .none _ hS₂ (fun h' tk acc c as hk hS' hl hG hacc => ?_) hn
  exact hR h' tk acc c as (fun b o hb h2 h3 h4 h5 e => hk b o hb h2 h3 h4 h5 (oth b o hb e)) hS' hl hG hacc
/-- list(z), z a zip that has not been turned -/
theorem z_call {Q : Value → Shared → Prop} {x0 y0 : Value} (Z : ZipSep2 z TI TO i1 i2 fp1 fp2) (D1 : ∀ A' : Around, A'.handled = A.handled → Draws prog w A' i1 fp1 n P1 St1) (D2 : ∀ A' : Around, A'.handled = A.handled → Draws prog w A' i2 fp2 n P2 St2) (hTI : IsTupOf2 s.heap TI (.ref i1) (.ref i2)) (s1 : St1 0 s.heap) (s2 : St2 0 s.heap) (hz : IsZip s.heap z TI TO .none) (hTO : IsTupOf2 s.heap TO x0 y0)
    (hf1 : ∀ b ∈ fp1, b < s.heap.objs.size) (hf2 : ∀ b ∈ fp2, b < s.heap.objs.size) (hn : n ≤ sizeLine)
    (hQ : ∀ h' tk acc c as, (∀ b o, b ≠ z → b ≠ TO → b ≠ i1 → b ≠ i2 → s.heap.get? b = some o → h'.get? b = some o) → h'.get? s.heap.objs.size = some { cls := .type "list", dict := none, data := .seq acc c, slots := #[] } → as.length = n → ZG P1 P2 s.heap.objs.size h' as →
      acc.toList = as.map Value.ref → Q (.ref s.heap.objs.size) { s with heap := h', toks := tk }) :
    wpAny (model prog w) A (call (.type "list") [.ref z]) Q E s := by
  refine callType_codes (Q₁ := fun obj s₁ => obj = .ref s.heap.objs.size ∧ s₁ = { s with heap := s.heap.push { cls := .type "list", data := .seq #[] } }) PySem.F.called_list (PySem.F.typeCall_list_1 _) PySem.F.entry_list_init
    (code_list_new _ ⟨rfl, rfl⟩) fun obj s₁ h₁ => ?_
  obtain ⟨rfl, rfl⟩ := h₁
  have hS : (s.heap.push { cls := .type "list", data := .seq #[] }).get? s.heap.objs.size = some { cls := .type "list", data := .seq #[] } := Heap.get?_push_size _ rfl
  have up : ∀ b o, s.heap.get? b = some o → (s.heap.push { cls := .type "list", data := .seq #[] }).get? b = some o := fun b o e => Heap.get?_push_of_some _ e
  refine ⟨⟨_, hS, rfl⟩, PySem.F.args_list_init_2 _ _, z_init (A := A.in1) Z (D1 _ rfl) (D2 _ rfl) (up _ _ hTI) ((D1 A rfl).frame _ _ _ s1 fun b _ o e => up b o e) ((D2 A rfl).frame _ _ _ s2 fun b _ o e => up b o e) (up _ _ hz) (up _ _ hTO) (Heap.lt_size hTI) (Heap.lt_size hz) (Heap.lt_size hTO) (hf1 _ Z.mem1) (hf2 _ Z.mem2)
    (fun q => Nat.lt_irrefl _ (hf1 _ q)) (fun q => Nat.lt_irrefl _ (hf2 _ q)) hS (fun h' tk acc c as hk hS' hl hG hacc => ?_) hn⟩
  exact ⟨rfl, hQ h' tk acc c as (fun b o h2 h3 h4 h5 e => hk b o (Nat.ne_of_lt (Heap.lt_size e)) h2 h3 h4 h5 (up _ _ e)) hS' hl hG hacc⟩
end
end PySem.TLZ

set_option Elab.async false
set_option linter.all false
set_option maxRecDepth 100000
set_option maxHeartbeats 4000000
/-! TL: list(zip(a, b)) -/
namespace TL
open PySem PySem.Spec PyProof.Rows L2
/-- tuples laid at their addresses -/
def putP : Hp → List Addr → List (V × V) → Hp
  | H, a :: as, p :: ps => putP (upd H a (.tup [p.1, p.2])) as ps
  | H, _, _ => H
theorem putP_off {b : Addr} : ∀ (as : List Addr) (ps : List (V × V)) (H : Hp), b ∉ as → putP H as ps b = H b
  | [], _, _, _ => rfl
  | _ :: _, [], _, _ => rfl
  | a :: as, p :: ps, H, h => by
    show putP (upd H a (.tup [p.1, p.2])) as ps b = H b
    rw [putP_off as ps _ (fun z => h (List.mem_cons_of_mem _ z)), upd_ne (fun z => h (by rw [z]; exact List.mem_cons_self))]
theorem putP_at : ∀ (as : List Addr) (ps : List (V × V)) (H : Hp), as.length = ps.length → as.Nodup → ∀ (j : Nat) (a : Addr) (p : V × V), as[j]? = some a → ps[j]? = some p → putP H as ps a = some (.tup [p.1, p.2])
  | [], _, _, _, _, _, _, _, h, _ => by simp at h
  | _ :: _, [], _, h, _, _, _, _, _, _ => by cases h
  | a :: as, p :: ps, H, h, hn, j, b, q, h1, h2 => by
    have hn' := List.nodup_cons.mp hn
    show putP (upd H a (.tup [p.1, p.2])) as ps b = _
    cases j with
    | zero =>
      simp at h1 h2
      subst h1 h2
      rw [putP_off as ps _ hn'.1, upd_same]
    | succ j => exact putP_at as ps _ (Nat.succ.inj h) hn'.2 j b q (by simpa using h1) (by simpa using h2)
def SqA (K : PySem.W.Frag) (H : Hp) (a : Addr) (xs : List V) : Prop := SqL K H a xs ∨ SqT K H a xs
def tZipL (K : PySem.W.Frag) (ta : TA) : TE := fun σ H Q => ta σ H fun vs H1 => ∃ a b xs ys, vs = [.ref a, .ref b] ∧ SqA K H1 a xs ∧ SqA K H1 b ys ∧ xs.length = ys.length ∧
  ∀ (H' : Hp) (p : Addr) (ts : List Addr), (∀ b o, H1 b = some o → H' b = some o) → H1 p = none → H' p = some (.lst (ts.map V.ref)) → ts.length = xs.length →
    (∀ (j : Nat) (t : Addr) (x y : V), ts[j]? = some t → xs[j]? = some x → ys[j]? = some y → H' t = some (.tup [x, y])) → Q (.ref p) H'
section
variable {X : Cx}
theorem zsrc {pins : List (Addr × Obj)} {σ : St} {H : Hp} {s : Shared} {a : Addr} {xs : List V} (I : Inv X pins σ H s) (h : SqA X.K H a xs) :
    ∃ (its : List Value) (o : Obj) (Hh : Heap → Prop), Vals xs its ∧ xs.length ≤ sizeLine ∧ Begins (.ref a) o Hh ∧ Hh s.heap ∧ a < s.heap.objs.size ∧
      ∀ it : Addr, a ≠ it → ∃ St : Nat → Heap → Prop, (∀ A : Around, A.handled = none → Draws X.prog X.w A it [it, a] its.length (fun i v => its[i]? = some v) St) ∧ ∀ h' : Heap, h'.get? it = some o → Hh h' → St 0 h' := by
  rcases h with h | h
  · obtain ⟨its, rv, p, hz⟩ := I.list h
    refine ⟨its, _, _, rv, hz, begins_list a its.toArray, p.isList, p.lt, fun it ne => ⟨fun i h => h.IsListIter it a i ∧ h.IsList a its.toArray, fun A hA => by simpa using Draws.list hA it a ne its.toArray, fun h' e q => ⟨⟨_, e, rfl, rfl⟩, q⟩⟩⟩
  · obtain ⟨its, rv, p, hz⟩ := I.tuple h
    obtain ⟨o, ho, _⟩ := id p
    refine ⟨its, _, _, rv, hz, begins_tuple a its.toArray, p, Heap.lt_size ho, fun it ne => ⟨fun i h => h.IsTupleIter it a i ∧ h.IsTuple a its.toArray, fun A hA => by simpa using Draws.tuple hA it a ne its.toArray, fun h' e q => ⟨⟨_, e, rfl, rfl⟩, q⟩⟩⟩
theorem zlaid {pins : List (Addr × Obj)} {σ : St} {H : Hp} {s : Shared} {h' : Heap} {S : Addr} {tk : Nat} {xs ys : List V} {us vs : List Value} {acc : Array Value} {c : Nat} {as : List Addr} (I : Inv X pins σ H s) (hz : xs.length ≤ sizeLine) (hl0 : xs.length = ys.length) (kv : Vals xs us) (kw : Vals ys vs)
    (hk : ∀ b o, s.heap.get? b = some o → h'.get? b = some o) (lS : s.heap.objs.size ≤ S) (hS : h'.get? S = some { cls := .type "list", dict := none, data := .seq acc c, slots := #[] }) (hl : as.length = us.length) (hG : PySem.TLZ.ZG (fun i v => us[i]? = some v) (fun i v => vs[i]? = some v) S h' as) (hacc : acc.toList = as.map Value.ref) :
    ∃ H' : Hp, (∀ b o, H b = some o → H' b = some o) ∧ H S = none ∧ H' S = some (.lst (as.map V.ref)) ∧ (∀ (j : Nat) (t : Addr) (x y : V), as[j]? = some t → xs[j]? = some x → ys[j]? = some y → H' t = some (.tup [x, y])) ∧ Inv X pins σ H' { s with heap := h', toks := tk } := by
  have lk : xs.length = us.length := kv.length
  have hSn : S ∉ as := fun z => Nat.lt_irrefl _ (hG.above _ z)
  have nd : as.Nodup := List.Pairwise.imp (fun {a b} (h : a < b) => Nat.ne_of_lt h) hG.rise
  have lo : ∀ t ∈ as, s.heap.objs.size ≤ t := fun t ht => Nat.le_trans lS (Nat.le_of_lt (hG.above t ht))
  have new : ∀ t ∈ as, H t = none := fun t ht => I.hok.fresh (lo t ht)
  have newS : H S = none := I.hok.fresh lS
  have lz : (xs.zip ys).length = xs.length := by rw [List.length_zip, ← hl0, Nat.min_self]
  have atP := putP_at as (xs.zip ys) (upd H S (.lst (as.map V.ref))) (by omega) nd
  have off : ∀ b, b ∉ as → b ≠ S → putP (upd H S (.lst (as.map V.ref))) as (xs.zip ys) b = H b := fun b h1 h2 => by rw [putP_off as _ _ h1, upd_ne h2]
  have low : ∀ b o, s.heap.get? b = some o → b ∉ as ∧ b ≠ S := fun b o e => ⟨fun z => absurd (Heap.lt_size e) (Nat.not_lt.mpr (lo b z)), Nat.ne_of_lt (Nat.lt_of_lt_of_le (Heap.lt_size e) lS)⟩
  have kp : ∀ b u, H b = some u → (putP (upd H S (.lst (as.map V.ref))) as (xs.zip ys)) b = some u := fun b u e => by
    rw [off b (fun z => by rw [new b z] at e; cases e) (fun z => by rw [z, newS] at e; cases e)]
    exact e
  have eS : putP (upd H S (.lst (as.map V.ref))) as (xs.zip ys) S = some (.lst (as.map V.ref)) := by rw [putP_off as _ _ hSn, upd_same]
  have zg : ∀ (j : Nat) (x y : V), xs[j]? = some x → ys[j]? = some y → (xs.zip ys)[j]? = some (x, y) := fun j x y e1 e2 => by
    rw [List.getElem?_zip_eq_some]; exact ⟨e1, e2⟩
  refine ⟨putP (upd H S (.lst (as.map V.ref))) as (xs.zip ys), kp, newS, eS, fun j t x y e1 e2 e3 => atP j t (x, y) e1 (zg j x y e2 e3), ?_⟩
  refine I.call' (ch := []) rfl ⟨fun b o q _ _ _ => hk b o q, fun b o q _ _ _ => ⟨o.slots, hk b o q⟩, fun b o q n _ => ?_, fun b o q _ => ⟨o, hk b o q⟩, fun b xs q => kp b _ q, fun b o u q => kp b _ q, fun b ps q => ⟨#[], by rw [kp b _ q]; simp⟩⟩ (fun b u q => ?_) I.bare fun b z => by simp at z
  · obtain ⟨z1, z2⟩ := low b o q
    rw [off b z1 z2]
    exact n
  · by_cases hb : b ∈ as
    · obtain ⟨j, hj⟩ := List.mem_iff_getElem?.mp hb
      have hjl : j < xs.length := by have := (List.getElem?_eq_some_iff.mp hj).1; omega
      have ex : xs[j]? = some xs[j] := List.getElem?_eq_getElem hjl
      have ey : ys[j]? = some (ys[j]'(by omega)) := List.getElem?_eq_getElem (by omega)
      rw [atP j b _ hj (zg j _ _ ex ey)] at q
      cases q
      obtain ⟨x, y, f1, f2, f3⟩ := hG.pairs j b hj
      obtain ⟨u, hu, ru⟩ := kv.get ex
      obtain ⟨u2, hu2, ru2⟩ := kw.get ey
      rw [f1] at hu; cases hu
      rw [f2] at hu2; cases hu2
      exact ⟨by show 2 ≤ sizeLine; decide, [x, y], .cons ru (.cons ru2 .nil), ⟨_, f3, rfl, _, rfl⟩⟩
    · by_cases hb2 : b = S
      · rw [hb2] at q ⊢
        rw [eS] at q
        cases q
        refine ⟨by rw [List.length_map]; omega, acc.toList, c, by rw [hacc]; exact LiI.vals_refs as, ?_⟩
        rw [Array.toArray_toList]
        exact hS
      · rw [off b hb hb2] at q
        exact (I.hok b u q).stay (fun d v _ y => hk d v y) (fun d y => kp d _ y) fun d xs y => kp d _ y
/-- list(zip(e, e2)) of two sequences of one length -/
theorem pe_zl {e e2 : Expr} {ta : TA} {p p2 zpos pos : Pos} (hc : X.calm = true) (ha : PA X [e, e2] ta) (hg : Gl X "zip" := by rfl) (hm : X.mg "zip" = none := by rfl) (hg' : Gl X "list" := by rfl) (hm' : X.mg "list" = none := by rfl)
    (hs : starEach [e, e2] X.env = (false, eval e X.env) :: starEach [e2] X.env := by rfl) (hpl : (backTo zpos (starEach [e2] X.env)).any (·.1) = false := by rfl)
    (hs2 : starEach [.Call (.Name "zip" p2) [e, e2] [] zpos] X.env = (false, eval (.Call (.Name "zip" p2) [e, e2] [] zpos) X.env) :: starEach [] X.env := by rfl) :
    PE X (.Call (.Name "list" p) [.Call (.Name "zip" p2) [e, e2] [] zpos] [] pos) (tZipL X.K ta) := by
  refine ⟨fun pins s σ H Q I h => ?_⟩
  refine wpAny_Call_Name_kw (ld_blt I hg' hm' PyProof.Rows.boot_list ?_)
  refine PyProof.Rows.callWith_type1 ?_ hs2 rfl
  rw [hs2]
  show wpAny _ _ (spliced ((false, eval (.Call (.Name "zip" p2) [e, e2] [] zpos) X.env) :: backTo pos (starEach [] X.env))) _ _ s
  refine Calls.spliced_cons ?_
  refine Call_ (ld_blt I hg hm PyProof.Rows.boot_zip (PyProof.Rows.callWith_type1 (thn (ha.run zpos pins s σ H _ I h) fun us s1 ⟨vs, H1, I1, r1, q1⟩ => ?_) hs hpl))
  obtain ⟨a, b, xs, ys, ex, hx, hy, hl, q1⟩ := q1
  subst ex
  cases r1 with
  | cons r rr =>
    cases rr with
    | cons r' rr =>
      cases rr
      cases r
      cases r'
      obtain ⟨its, o1, Hh1, rv, hz1, B1, q1h, la, S1⟩ := zsrc I1 hx
      obtain ⟨its2, o2, Hh2, rv2, hz2, B2, q2h, lb, S2⟩ := zsrc I1 hy
      have l1 := rv.length
      have l2 := rv2.length
      refine zip_begins2 B1 B2 q1h q2h fun h' hz hTI hTO g1 g2 hsz hk => ?_
      refine Calls.spliced_nil ?_
      obtain ⟨T1, D1, st1⟩ := S1 (s1.heap.objs.size) (Nat.ne_of_lt la)
      obtain ⟨T2, D2, st2⟩ := S2 (s1.heap.objs.size + 1) (Nat.ne_of_lt (Nat.lt_succ_of_lt lb))
      have e12 : its.length = its2.length := by omega
      rw [← e12] at D2
      have k0 : ∀ c d : Nat, c < s1.heap.objs.size → s1.heap.objs.size + d ≠ c := fun c d h => Nat.ne_of_gt (Nat.lt_of_lt_of_le h (Nat.le_add_right _ _))
      have k1 : ∀ d e : Nat, d ≠ e → s1.heap.objs.size + d ≠ s1.heap.objs.size + e := fun d e h q => h (Nat.add_left_cancel q)
      have k2 : ∀ d : Nat, d ≠ 0 → s1.heap.objs.size + d ≠ s1.heap.objs.size := fun d h q => h (Nat.add_left_cancel (q.trans (Nat.add_zero (s1.heap.objs.size)).symm))
      have Z : ZipSep2 (s1.heap.objs.size + 4) (s1.heap.objs.size + 2) (s1.heap.objs.size + 3) (s1.heap.objs.size) (s1.heap.objs.size + 1) [s1.heap.objs.size, a] [s1.heap.objs.size + 1, b] := {
        TIz := k1 2 4 (by decide)
        TOz := k1 3 4 (by decide)
        TITO := k1 2 3 (by decide)
        TIi1 := k2 2 (by decide)
        mem1 := by simp
        zf1 := by simp only [List.mem_cons, List.not_mem_nil, or_false, not_or]; exact ⟨k2 4 (by decide), k0 a 4 la⟩
        Tf1 := by simp only [List.mem_cons, List.not_mem_nil, or_false, not_or]; exact ⟨k2 3 (by decide), k0 a 3 la⟩
        TIi2 := k1 2 1 (by decide)
        mem2 := by simp
        zf2 := by simp only [List.mem_cons, List.not_mem_nil, or_false, not_or]; exact ⟨k1 4 1 (by decide), k0 b 4 lb⟩
        Tf2 := by simp only [List.mem_cons, List.not_mem_nil, or_false, not_or]; exact ⟨k1 3 1 (by decide), k0 b 3 lb⟩
        sep1_2 := by simp only [List.mem_cons, List.not_mem_nil, or_false, not_or]; exact ⟨fun q => k2 1 (by decide) q.symm, k0 b 0 lb⟩
        sep2_1 := by simp only [List.mem_cons, List.not_mem_nil, or_false, not_or]; exact ⟨k2 1 (by decide), k0 a 1 la⟩ }
      have hh := I1.ok.hd hc
      have below : ∀ c d : Nat, c < s1.heap.objs.size → c ≠ s1.heap.objs.size + d := fun c d h q => k0 c d h q.symm
      refine PySem.TLZ.z_call (s := { s1 with heap := h' }) (n := its.length) (P1 := fun i v => its[i]? = some v) (P2 := fun i v => its2[i]? = some v) (St1 := T1) (St2 := T2) Z (fun A' hA => D1 A' (hA.trans hh)) (fun A' hA => D2 A' (hA.trans hh)) hTI (st1 h' g1 (B1.keeps _ _ q1h hk)) (st2 h' g2 (B2.keeps _ _ q2h hk)) hz hTO ?_ ?_ (by omega) fun h2 tk acc c as hk2 hS hl2 hG hacc => ?_
      · intro b' hb'
        simp only [List.mem_cons, List.not_mem_nil, or_false] at hb'
        show b' < h'.objs.size
        rw [hsz]
        rcases hb' with q | q
        · rw [q]; exact Nat.lt_add_of_pos_right (by decide)
        · rw [q]; exact Nat.lt_of_lt_of_le la (Nat.le_add_right _ _)
      · intro b' hb'
        simp only [List.mem_cons, List.not_mem_nil, or_false] at hb'
        show b' < h'.objs.size
        rw [hsz]
        rcases hb' with q | q
        · rw [q]; exact Nat.add_lt_add_left (by decide) (s1.heap.objs.size)
        · rw [q]; exact Nat.lt_of_lt_of_le lb (Nat.le_add_right _ _)
      · have hk3 : ∀ b o, s1.heap.get? b = some o → h2.get? b = some o := fun b' o q => by
          have lb' : b' < s1.heap.objs.size := Heap.lt_size q
          exact hk2 b' o (below _ 4 lb') (below _ 3 lb') (below _ 0 lb') (below _ 1 lb') (hk _ _ q)
        obtain ⟨H', m1, m2, m3, m4, J⟩ := zlaid (tk := tk) I1 hz1 hl rv rv2 hk3 (by show s1.heap.objs.size ≤ h'.objs.size; rw [hsz]; exact Nat.le_add_right _ _) hS (by omega) hG hacc
        have qq := q1 H' _ as m1 m2 m3 (by omega) m4
        exact ⟨.ref (h'.objs.size), H', J, rfl, qq⟩
/-! ### as trees -/
def pairsT : List T → List T → List T
  | x :: xs, y :: ys => .tup [x, y] :: pairsT xs ys
  | _, _ => []
/-- list(zip(e, e2)) -/
def wZipL (ta : TAw) : TEw := fun τ W R E => ta τ W (fun ts W1 => ∃ t u xs ys, ts = [t, u] ∧ itemsT W1 t = some xs ∧ itemsT W1 u = some ys ∧ xs.length = ys.length ∧ ∀ p, W1 p = none → R (.ref p) (updw W1 p (.lst (pairsT xs ys)))) E
theorem relt_pairs {K : PySem.W.Frag} {H : Hp} : ∀ {ts : List Addr} {xs ys : List T} {vs us : List V}, RelTs K H xs vs → RelTs K H ys us → ts.length = xs.length → xs.length = ys.length →
    (∀ (j : Nat) (t : Addr) (x y : V), ts[j]? = some t → vs[j]? = some x → us[j]? = some y → H t = some (.tup [x, y])) → RelTs K H (pairsT xs ys) (ts.map V.ref)
  | [], [], [], _, _, _, _, _, _, _ => .nil
  | t :: ts, x :: xs, y :: ys, vs, us, r1, r2, h1, h2, hp => by
    obtain ⟨v, vs', rfl, q1, q2⟩ := r1.inv_cons
    obtain ⟨u, us', rfl, p1, p2⟩ := r2.inv_cons
    refine .cons ?_ (relt_pairs q2 p2 (Nat.succ.inj h1) (Nat.succ.inj h2) fun j t' x' y' e1 e2 e3 => hp (j + 1) t' x' y' (by simpa using e1) (by simpa using e2) (by simpa using e3))
    simp only [RelT]
    exact ⟨t, [v, u], rfl, hp 0 t v u rfl rfl rfl, .cons q1 (.cons p1 .nil)⟩
theorem itemsT_sq {K : PySem.W.Frag} {H : Hp} {W : Hw} {t : T} {v : V} {xs : List T} (rp : Rep K H W) (r : RelT K H t v) (h : itemsT W t = some xs) : ∃ a vs, v = .ref a ∧ SqA K H a vs ∧ RelTs K H xs vs := by
  cases t with
  | tup ts =>
    simp only [itemsT, Option.some.injEq] at h; subst h
    simp only [RelT] at r
    obtain ⟨a, vs, rfl, e, r⟩ := r
    exact ⟨a, vs, rfl, .inr (.inl (.inl e)), r⟩
  | rol ts =>
    simp only [itemsT, Option.some.injEq] at h; subst h
    simp only [RelT] at r
    obtain ⟨a, vs, rfl, e, r⟩ := r
    exact ⟨a, vs, rfl, .inl e.sq, r⟩
  | ref a =>
    simp only [RelT] at r
    subst r
    simp only [itemsT] at h
    split at h
    · rename_i ts e
      cases h
      obtain ⟨vs, e1, r⟩ := rp a _ e
      exact ⟨a, vs, rfl, .inl (.inl (.inl e1)), r⟩
    · cases h
  | non => simp [itemsT] at h
  | bl b => simp [itemsT] at h
  | int b => simp [itemsT] at h
  | str b => simp [itemsT] at h
  | ty b => simp [itemsT] at h
theorem w_zipl {Wx : WX} {e e2 : Expr} {ta : TAw} {p p2 zpos pos : Pos} (hc : X.calm = true) (ha : LA X Wx [e, e2] ta) (hg : Gl X "zip" := by rfl) (hm : X.mg "zip" = none := by rfl) (hg' : Gl X "list" := by rfl) (hm' : X.mg "list" = none := by rfl)
    (hs : starEach [e, e2] X.env = (false, eval e X.env) :: starEach [e2] X.env := by rfl) (hpl : (backTo zpos (starEach [e2] X.env)).any (·.1) = false := by rfl)
    (hs2 : starEach [.Call (.Name "zip" p2) [e, e2] [] zpos] X.env = (false, eval (.Call (.Name "zip" p2) [e, e2] [] zpos) X.env) :: starEach [] X.env := by rfl) :
    LE X Wx (.Call (.Name "list" p) [.Call (.Name "zip" p2) [e, e2] [] zpos] [] pos) (wZipL ta) := by
  refine PE.imp (pe_zl hc ha hg hm hg' hm' hs hpl hs2) ?_
  rintro σ H Q ⟨τ, W, R, E, rs, rp, h, q, ux⟩
  refine lowA.go rs rp h (fun ts W1 vs H1 g r p1 h1 => ?_) ux
  obtain ⟨t, u, xs, ys, rfl, sx, sy, hl, k⟩ := h1
  obtain ⟨v, r1, rfl, q1, q2⟩ := r.inv_cons
  obtain ⟨v', r1', rfl, q1', q2'⟩ := q2.inv_cons
  cases q2'.inv_nil
  obtain ⟨a, us, rfl, sa, ra⟩ := itemsT_sq p1 q1 sx
  obtain ⟨b, us', rfl, sb, rb⟩ := itemsT_sq p1 q1' sy
  have la := ra.len
  have lb := rb.len
  refine ⟨a, b, us, us', rfl, sa, sb, by omega, fun H' p ts hk hp hl' hlen hpairs => ?_⟩
  have g' : Grow X.K H1 H' := ⟨fun a xs e => hk a _ e, fun a o u e => hk a _ e, fun a q e => hk a _ e⟩
  refine q _ _ ⟨.ref p, _, g.trans g', by simp only [RelT], ?_, k p (p1.free hp)⟩
  intro c o e
  by_cases hcp : c = p
  · subst hcp
    rw [updw_same] at e; cases e
    exact ⟨_, hl', relt_pairs (ra.grow g') (rb.grow g') (by omega) hl hpairs⟩
  · rw [updw_ne hcp] at e
    have z := p1 c o e
    cases hh : H1 c with
    | none => exact absurd hh z.some
    | some o' => exact z.at g' (by rw [hh]; exact hk _ _ hh)
end
end TL

set_option Elab.async false
set_option linter.all false
set_option maxRecDepth 100000
set_option maxHeartbeats 4000000
/-! TL: try with several except .. as clauses, what the suites ask of the caught error; lambdas handed to a def -/
namespace PySem.W
open PySem PySem.Spec PySem.Calls PyProof.Rows
/-- isinstance(x, c), x of the own class D, which is or comes from c -/
theorem tl_isYes {K : Frag} {x D : Addr} {ox : Obj} {od : Option Obj} {c : Value} (e : kitOne K (.ref D) c = some true) : Answers (fun s => K.In s.heap ∧ InstAt s.heap x ox D od) (.ref x) c true := by
  intro dep tk prog w A R s hs
  obtain ⟨h0, g, d, tt, os⟩ := s
  obtain ⟨⟨X, p⟩, hq⟩ := hs
  have LT := p.type (M := model prog w)
  unfold kitOne at e
  unfold Builtin.«isinstance.nested»
  refine wpAny_bind (LT.at ?_)
  by_cases q : (Value.ref D == c) = true
  · rw [if_pos q]
    first
      | ((repeat lk); exact hq tt)
      | exact wpAny_bind (wpAny_rule (hq tt))
      | exact wpAny_bind (wpAny_rule (wpAny_pure (hq tt)))
  · rw [if_neg q] at e
    rw [if_neg q]
    obtain ⟨hty, his, hsub⟩ := kit_cls (M := model prog w) X e
    have LI : Looks (model prog w) h0 (isInstance (.ref x) c) true := LT.andThen hsub
    refine wpAny_bind (hty.at ?_)
    rw [if_pos (by decide)]
    k_delta "plainIsInstance"
    refine wpAny_bind (wpAny_bind (his.at ?_))
    simp only [Bool.not_true, Bool.false_eq_true, if_false]
    refine wpAny_bind (LI.at ?_)
    first
      | exact wpAny_pure (wpAny_pure (hq tt))
      | (simp only [if_true]; first | exact wpAny_pure (wpAny_pure (hq tt)) | exact wpAny_pure (hq tt) | exact wpAny_bind (wpAny_pure (wpAny_pure (hq tt))))
theorem tl_isCall {prog : Program} {w : World} {A : Around} {E : Value → Shared → Prop} {s : Shared} {Q : Value → Shared → Prop} {K : Frag} {x D : Addr} {ox : Obj} {od : Option Obj} {c : Value} (X : K.In s.heap) (p : InstAt s.heap x ox D od) (e : kitOne K (.ref D) c = some true) (h : ∀ tk, Q (.bool true) { s with toks := tk }) :
    wpAny (model prog w) A (call (.builtin "isinstance") [.ref x, c]) Q E s :=
  call_isinstance (S := fun _ R s => (K.In s.heap ∧ InstAt s.heap x ox D od) ∧ ∀ tk, R (.ok (.ret (.bool true))) { s with toks := tk })
    (fun prog w A R s hs => isinstance_outer (tl_isYes e 0 _ prog w A R s hs) (fun z => nomatch z)) ⟨⟨X, p⟩, h⟩
end PySem.W
namespace TL
open PySem PySem.Spec PyProof.Rows L2
/-- what the clauses wish, one behind the other; each binds its own slot -/
def wTrys (K : PySem.W.Frag) (Wout : WX) (D : Ends) : List (Value × Nat × (Addr → Value → Option Addr → TS)) → WX
  | [] => Wout
  | (c, i, ts) :: r => fun cls d σ H => ∃ b, PySem.W.exmOne K cls c = some b ∧
    (b = true → ∀ a, H a = none → ts a cls d { nx := fun σ' H' => D.nx (σ'.set i none) H', rt := D.rt, bk := fun σ' H' => D.bk (σ'.set i none) H', ct := fun σ' H' => D.ct (σ'.set i none) H' } (σ.set i (some (.ref a))) H) ∧ (b = false → wTrys K Wout D r cls d σ H)
inductive HdsAs (X : Cx) : List ExceptHandler → List (Value × Nat × (Addr → Value → Option Addr → TS)) → Prop
  | nil : HdsAs X [] []
  | cons {x n : Str} {c : Value} {i : Nat} {ts : Addr → Value → Option Addr → TS} {b₀ : Stmt} {suite : List Stmt} {np pos' : Pos} {hds : List ExceptHandler} {l : List (Value × Nat × (Addr → Value → Option Addr → TS))} (hi : X.N[i]? = some n) (hln : X.env.kindOf n = some .local) (hc : Names X x c)
      (hsu : ∀ (a : Addr) (oe : Obj) (cls : Value) (d : Option Addr) (pn : List (Addr × Obj)), Zc cls d oe → (∃ vs, oe.data = .fields vs) → PSs (X.suite a ((a, oe) :: pn)) (b₀ :: suite) (ts a cls d)) (r : HdsAs X hds l) :
      HdsAs X (.ExceptHandler (some (.Name x np)) (some n) (b₀ :: suite) pos' :: hds) ((c, i, ts) :: l)
section
variable {X : Cx} {body : List Stmt} {h₀ : ExceptHandler} {hds : List ExceptHandler} {l : List (Value × Nat × (Addr → Value → Option Addr → TS))} {pos : Pos} {tb : WX → TS} {Wout : WX}
theorem ps_trys (hs : X.stack = X.env :: X.outer) (hf : X.env.frame = some X.env.locals) (hN : X.N.Nodup) (tk : Takes X Wout)
    (hb : ∀ (W : WX) (pn : List (Addr × Obj)) (xe : Value → Shared → Prop), Takes (X.tr pn xe) W → PassesOwn (model X.prog X.w) X.A X.env xe → PSs (X.tr pn xe) body (tb W))
    (hh : HdsAs X (h₀ :: hds) l) : PS X (.Try body (h₀ :: hds) [] [] pos) (fun D σ H => tb (wTrys X.K Wout D l) D σ H) := by
  refine ⟨fun pins s σ H D I h => ?_⟩
  have ok := I.ok
  have hfr : X.A.frames = some (X.env :: X.outer) := by rw [ok.frames, hs]
  refine wpAny_Try_except ?_
  refine wpAny_mono ((hb (wTrys X.K Wout D l) (X.pn ++ pins) (fun e s₁ => wpAny (model X.prog X.w) X.A (noteFrame e X.env) (fun _ s₂ => wpAny (model X.prog X.w) X.A (setFlight e none) (fun _ s₃ =>
    wpAny (model X.prog X.w) X.A (handleBy e X.env (h₀ :: hds)) (SP X pins D) X.xe s₃) X.xe s₂) X.xe s₁) (fun u s' xx => ?_) PassesOwn.looking).run [] s σ H D (I.toTry _) h) (fun f s1 hsp => ?_) (fun e s1 he => he)
  · -- the catch
    obtain ⟨a, B, sI, pins', σ', H', cls, d, rfl, J', nb, up, sky, na, os, ag, w⟩ := xx
    have J : Inv X pins σ' H' sI := J'.ofTry ok
    have sky' : Sky B (X.env :: X.outer) a (Zc cls d) X.env.locals s'.heap := by rw [← hs]; exact sky
    show wpAny (model X.prog X.w) X.A (noteFrame (.ref a) X.env) _ _ _
    refine Sky.land Zc.steady hfr hf sky' fun h3 fl3 up3 => ?_
    have J3 : Inv X pins σ' H' { s' with heap := h3 } := J.landed nb fl3.1 (up.trans up3) os ag
    obtain ⟨oe3, vs3, he3, hz3, hd3⟩ := fl3.there
    have notFr : ∀ {h : Heap} {o : Obj} {vs : Array Value}, h.FunFrames B (X.env :: X.outer) → h.get? a = some o → o.data = .fields vs → a ∉ frs (X.env :: X.outer) := fun {h o vs} ff e dd hm => by
      obtain ⟨_, o', e', hnf⟩ := ff.mem hm
      rw [e] at e'; cases e'
      exact hnf _ dd
    have nfr := notFr fl3.2.2.1 he3 hd3
    have nL : a ≠ X.env.locals := fun z => nfr (List.mem_filterMap.mpr ⟨X.env, List.mem_cons_self, by rw [hf, z]⟩)
    have nF : a ∉ X.fs := fun hm => by
      obtain ⟨e, he, q⟩ := List.mem_filterMap.mp hm
      exact nfr (List.mem_filterMap.mpr ⟨e, List.mem_cons_of_mem _ he, q⟩)
    have S3 := J3.suite he3 hd3 na nL nF
    have go : ∀ {hds' : List ExceptHandler} {l' : List (Value × Nat × (Addr → Value → Option Addr → TS))}, HdsAs X hds' l' → wTrys X.K Wout D l' cls d σ' H' →
        wpAny (model X.prog X.w) X.A (handleBy (.ref a) X.env hds') (SP X pins D) X.xe { s' with heap := h3 } := by
      intro hds' l' hk
      induction hk with
      | nil =>
        intro w
        refine wpAny_handleBy_nil ?_
        obtain ⟨k1, k2, k3, oe, vs, T, oT, ts', he, hz, hd, h1, hr⟩ := id fl3
        unfold PySem.passOn
        refine wpAny_bind (wpAny_field he hd h1 ?_)
        rw [if_neg (show ¬ ((Value.ref T == Value.none) = true) from by simp)]
        have fin : wpAny (model X.prog X.w) X.A (setFlight (.ref a) X.env.frame) (fun _ s4 => wpAny (model X.prog X.w) X.A (throw (.ref a) : Sem Flow) (SP X pins D) X.xe s4) X.xe { s' with heap := h3 } := by
          rw [hf]
          refine HandSPX.setFlight_upZ fl3 fun h4 hh4 up4 => wpAny_throw (tk _ _ ?_)
          exact ⟨a, B, sI, pins, σ', H', cls, d, rfl, J, nb, (up.trans up3).trans up4, .inr (.inr (by rw [hs]; exact hh4)), na, os, ag, w⟩
        first
          | exact wpAny_bind (wpAny_pure (wpAny_bind fin))
          | exact wpAny_bind fin
      | @cons x n c i ts b₀ suite np pos' hds2 l2 hi hln hc hsu r ih =>
        intro w
        obtain ⟨b, hb1, hyes, hno⟩ := w
        refine wpAny_handleBy_cons (codeAny_handlers_test ?_) (by intro q; cases q)
        have LT : PySem.W.Looks (model X.prog X.w) h3 (typeOf (.ref a)) cls := fun A Q E s k q => wpAny_typeOf_ref (k _ _ he3) (by rw [hz3.1]; exact q)
        have LM := PySem.W.exm_one (M := model X.prog X.w) (J3.kIn) LT hb1
        have test : ∀ {Q : Value → Shared → Prop} {E : Value → Shared → Prop}, Q c { s' with heap := h3 } → wpAny (model X.prog X.w) (X.A.mark (some (.ref a))) (eval (.Name x np) X.env) Q E { s' with heap := h3 } := fun {Q E} q => by
          obtain ⟨hg, hdbg, hm | ⟨hm, hv, hnn⟩⟩ := hc
          · exact ld_glob (X := X.suite a ((a, oe3) :: (X.pn ++ pins))) S3 hg hm q hdbg
          · exact ld_blt (X := X.suite a ((a, oe3) :: (X.pn ++ pins))) S3 hg hm hv q hnn hdbg
        refine test (LM.here ?_)
        cases b with
        | true =>
          refine codeAny_handlers_suite_as ?_
          refine HandSPX.lands_againZ fl3 fun h4 fl4 up4 => ?_
          have J4 : Inv X pins σ' H' { s' with heap := h4 } := J.landed nb fl4.1 ((up.trans up3).trans up4) os ag
          obtain ⟨oe4, vs4, he4, hz4, hd4⟩ := fl4.there
          have S4 := J4.suite he4 hd4 na nL nF
          refine store_ok (X := X.suite a ((a, oe4) :: (X.pn ++ pins))) (v := .ref a) S4 hN hi (.inl hln) rfl (fun s5 S5 => ?_) (.inr hln)
          refine wpAny_mono ((hsu a oe4 cls d (X.pn ++ pins) hz4 ⟨_, hd4⟩).run [] s5 _ H' _ S5 (hyes rfl a na)) (fun f s6 hsp => ?_) (fun _ _ z => False.elim z)
          have end_ : ∀ {σ6 : St} {H6 : Hp} {Q : Shared → Prop}, Inv (X.suite a ((a, oe4) :: (X.pn ++ pins))) [] σ6 H6 s6 → (∀ s7, Inv X pins (σ6.set i none) H6 s7 → Q s7) →
              wpAny (model X.prog X.w) X.A (do bindName X.env n .none; unbindBehindTheSuite X.env n pos') (fun _ s7 => Q s7) X.xe s6 := fun {σ6 H6 Q} S6 hq => gone_ok (S6.unsuite ok) hN hi hln hq
          cases f with
          | next =>
            obtain ⟨σ6, H6, S6, q6⟩ := hsp
            exact end_ S6 fun s7 J7 => ⟨_, _, J7, q6⟩
          | brk =>
            obtain ⟨σ6, H6, S6, q6⟩ := hsp
            exact end_ S6 fun s7 J7 => ⟨_, _, J7, q6⟩
          | cont =>
            obtain ⟨σ6, H6, S6, q6⟩ := hsp
            exact end_ S6 fun s7 J7 => ⟨_, _, J7, q6⟩
          | ret u =>
            obtain ⟨v6, σ6, H6, S6, r6, q6⟩ := hsp
            exact end_ S6 fun s7 J7 => ⟨_, _, _, J7, r6, q6⟩
        | false =>
          show wpAny _ X.A (handleBy (.ref a) X.env hds2) _ _ _
          exact ih (hno rfl)
    exact go hh w
  · cases f with
    | next =>
      obtain ⟨σ', H', J', q⟩ := hsp
      exact wpAny_execs_nil ⟨σ', H', J'.ofTry ok, q⟩
    | brk =>
      obtain ⟨σ', H', J', q⟩ := hsp
      exact ⟨σ', H', J'.ofTry ok, q⟩
    | cont =>
      obtain ⟨σ', H', J', q⟩ := hsp
      exact ⟨σ', H', J'.ofTry ok, q⟩
    | ret u =>
      obtain ⟨v, σ', H', J', r, q⟩ := hsp
      exact ⟨v, σ', H', J'.ofTry ok, r, q⟩
end

/-- a clause: its class, its slot, its suite (told where the error and its dict lie) -/
abbrev Hd := Addr × Nat × (Addr → Addr → TSw)
def wHds (D : EndsW) : List Hd → Xw
  | [] => D.ex
  | (Ck, i, ts) :: r => fun C t τ W => if C = Ck then ∀ a dd, W a = none → W dd = none → a ≠ dd → ts a dd { nx := fun τ' W' => D.nx (τ'.set i none) W', rt := D.rt, bk := fun τ' W' => D.bk (τ'.set i none) W', ct := fun τ' W' => D.ct (τ'.set i none) W', ex := E0x } (τ.set i (some (.ref a))) (updw W dd (.exc t))
    else wHds D r C t τ W
def wTry (Cs : List Addr) (tb : TSw) (hs : List Hd) : TSw := fun D τ W => tb { D with ex := fun C t τ1 W1 => C ∈ Cs ∧ wHds D hs C t τ1 W1 } τ W
inductive HdsW (X : Cx) : List ExceptHandler → List Hd → Prop
  | nil : HdsW X [] []
  | cons {x n : Str} {Ck : Addr} {i : Nat} {ts : Addr → Addr → TSw} {b₀ : Stmt} {suite : List Stmt} {np pos' : Pos} {hds : List ExceptHandler} {l : List Hd} (hi : X.N[i]? = some n) (hln : X.env.kindOf n = some .local) (hc : Names X x (.ref Ck))
      (hsu : ∀ (a dd : Addr) (oe : Obj) (pn : List (Addr × Obj)), Zc (.ref Ck) (some dd) oe → (∃ vs, oe.data = .fields vs) → LSs (X.suite a ((a, oe) :: pn)) W0x (b₀ :: suite) (ts a dd)) (r : HdsW X hds l) :
      HdsW X (.ExceptHandler (some (.Name x np)) (some n) (b₀ :: suite) pos' :: hds) ((Ck, i, ts) :: l)
def asV (K : PySem.W.Frag) : Hd → Value × Nat × (Addr → Value → Option Addr → TS)
  | (Ck, i, ts) => (.ref Ck, i, fun a cls d => fun D σ H => ∃ dd, cls = .ref Ck ∧ d = some dd ∧ a ≠ dd ∧ lowS K W0x (ts a dd) D σ H)
theorem HdsW.as {X : Cx} {hds : List ExceptHandler} {l : List Hd} (h : HdsW X hds l) : HdsAs X hds (l.map (asV X.K)) := by
  induction h with
  | nil => exact .nil
  | cons hi hln hc hsu r ih =>
    refine .cons hi hln hc (fun a oe cls d pn hz hf => ⟨fun pins s σ H D I h => ?_⟩) ih
    obtain ⟨dd, rfl, rfl, _, h⟩ := h
    exact (hsu a dd oe pn hz hf).run pins s σ H D I h
section
variable {X : Cx} {Wx : WX} {body : List Stmt} {h₀ : ExceptHandler} {hds : List ExceptHandler} {l : List Hd} {Cs : List Addr} {pos : Pos} {tb : TSw}
theorem wHds_low {Dw : EndsW} {D : Ends} {H : Hp} (ux : UpX X.K H Dw.ex Wx) (ud : UpD X.K H Dw D) {C : Addr} {t : T} {W : Hw} {v : V} {dd : Addr} {τ : Sw} {σ : L2.St} {H' : Hp} (g : Grow X.K H H') (hd : H' dd = some (.xd [(("thing" : Str), v)])) (rv : RelT X.K H' t v) (rs : RelS X.K H' τ σ) (rp : Rep X.K H' W) (nd : W dd = none) :
    ∀ l : List Hd, (∀ k ∈ l, PySem.W.exmOne X.K (.ref C) (.ref k.1) = some (decide (C = k.1))) → wHds Dw l C t τ W → wTrys X.K Wx D (l.map (asV X.K)) (.ref C) (some dd) σ H'
  | [], _, h => ux C t W v dd τ σ H' g hd rv rs ⟨rp, nd⟩ h
  | (Ck, i, ts) :: r, hE, h => by
    refine ⟨decide (C = Ck), hE (Ck, i, ts) List.mem_cons_self, fun hb a na => ?_, fun hb => ?_⟩
    · have e : C = Ck := of_decide_eq_true hb
      subst e
      have h : (if C = C then _ else _) := h
      rw [if_pos rfl] at h
      have ne : a ≠ dd := fun z => by rw [z, hd] at na; cases na
      refine ⟨dd, rfl, rfl, ne, τ.set i (some (.ref a)), updw W dd (.exc t), _, rs.set i (by simp only [RelT]), ?_, h a dd (rp.free na) nd ne, ⟨?_, ?_, ?_, ?_⟩, upx0⟩
      · intro b o e
        by_cases hb2 : b = dd
        · subst hb2
          rw [updw_same] at e; cases e
          exact ⟨v, hd, rv⟩
        · rw [updw_ne hb2] at e
          exact rp b o e
      · rintro σ' H2 ⟨τ', W', g', rs', rp', q⟩
        exact ud.nx _ _ ⟨_, W', g.trans g', rs'.none i, rp', q⟩
      · intro v' H2 q
        exact ud.rt _ _ (q.of g)
      · rintro σ' H2 ⟨τ', W', g', rs', rp', q⟩
        exact ud.bk _ _ ⟨_, W', g.trans g', rs'.none i, rp', q⟩
      · rintro σ' H2 ⟨τ', W', g', rs', rp', q⟩
        exact ud.ct _ _ ⟨_, W', g.trans g', rs'.none i, rp', q⟩
    · have e : ¬ C = Ck := of_decide_eq_false hb
      have h : (if C = Ck then _ else _) := h
      rw [if_neg e] at h
      exact wHds_low ux ud g hd rv rs rp nd r (fun k hk => hE k (List.mem_cons_of_mem _ hk)) h
theorem s_try (hs : X.stack = X.env :: X.outer) (hf : X.env.frame = some X.env.locals) (hN : X.N.Nodup) (tk : Takes X Wx)
    (hb : ∀ (Wb : WX) (pn : List (Addr × Obj)) (xe : Value → Shared → Prop), Takes (X.tr pn xe) Wb → LSs (X.tr pn xe) Wb body tb) (hh : HdsW X (h₀ :: hds) l)
    (hE : ∀ C ∈ Cs, ∀ k ∈ l, PySem.W.exmOne X.K (.ref C) (.ref k.1) = some (decide (C = k.1))) : LS X Wx (.Try body (h₀ :: hds) [] [] pos) (wTry Cs tb l) := by
  refine PS.imp (ps_trys (tb := fun Wb => lowS X.K Wb tb) hs hf hN tk (fun Wb pn xe tk' _ => hb Wb pn xe tk') hh.as) ?_
  rintro D σ H ⟨τ, W, Dw, rs, rp, h, ud, ux⟩
  refine ⟨τ, W, _, rs, rp, h, ⟨ud.nx, ud.rt, ud.bk, ud.ct⟩, ?_⟩
  rintro C t W' v dd τ' σ' H' g hd rv rs' ⟨rp', nd⟩ ⟨hC, hh'⟩
  exact wHds_low ux ud g hd rv rs' rp' nd l (hE C hC) hh'
end
/-! ### what a suite asks of the caught error -/
section
variable {X : Cx} {Wx : WX} {a dd C : Addr} {oe : Obj} {pn : List (Addr × Obj)} {e : Expr} {te : TEw} {pos : Pos}
/-- e.thing -/
def wThing (a dd : Addr) (te : TEw) : TEw := fun τ W R E => te τ W (fun t W1 => match t with
  | .ref b => b = a ∧ match W1 dd with
    | some (.exc u) => R u W1
    | _ => False
  | _ => False) E
theorem w_thing (T : XfC X.K C) (hno : PySem.W.findIn X.K (.ref C) "thing" = some none) (hz : Zc (.ref C) (some dd) oe) (hf : ∃ vs, oe.data = .fields vs) (he : LE (X.suite a ((a, oe) :: pn)) Wx e te) (hb : attributeBase e "thing" X.env (eval e X.env) = eval e X.env := by rfl) :
    LE (X.suite a ((a, oe) :: pn)) Wx (.Attribute e "thing" pos) (wThing a dd te) := by
  refine PE.imp (pe_xf T hno hz hf he hb) ?_
  rintro σ H Q ⟨τ, W, R, E, rs, rp, h, up, ux⟩
  refine lowE.go rs rp h (fun t W1 v H1 g r1 p1 h1 => ?_) ux
  split at h1
  · simp only [RelT] at r1
    obtain ⟨rfl, h1⟩ := h1
    split at h1
    · rename_i u e1
      obtain ⟨v', e2, r2⟩ := p1 dd _ e1
      refine ⟨r1, rfl, dd, _, v', rfl, e2, by simp [List.lookup], up _ _ ⟨u, W1, g, r2, p1, h1⟩⟩
    · exact h1.elim
  · exact h1.elim
/-- isinstance(e, c), where the answer is yes -/
def rIsC (K : PySem.W.Frag) (a dd C : Addr) : List V → Hp → VK → Prop := fun xs H Q => ∃ (c : Addr) (fs : List (Str × V)), xs = [.ref a, .ref c] ∧ H dd = some (.xd fs) ∧ PySem.W.kitOne K (.ref C) (.ref c) = some true ∧ Q (.bl true) H
theorem call_isC (hz : Zc (.ref C) (some dd) oe) (hf : ∃ vs, oe.data = .fields vs) : CallR (X.suite a ((a, oe) :: pn)) (.builtin "isinstance") (rIsC X.K a dd C) := by
  intro pins s σ H xs us Q I r h
  obtain ⟨c, fs, rfl, ea, e, q⟩ := h
  cases r with
  | cons rx rr =>
    cases rr with
    | cons rt rr =>
      cases rr
      cases rx
      cases rt
      obtain ⟨hget, _⟩ := I.pin (a, oe) (List.mem_append.mpr (.inl List.mem_cons_self))
      obtain ⟨vs, hv⟩ := hf
      have hx : ObjOk X.prog X.w H s.heap dd (.xd fs) := I.hok dd _ ea
      obtain ⟨mA, hns, hr⟩ := hx
      obtain ⟨od, ho, hl⟩ := lookIn_ns hns
      have J : PySem.W.InstAt s.heap a oe C (some od) := by
        obtain ⟨oc, odd, oda, osl⟩ := oe
        obtain ⟨h1, h2⟩ := hz
        dsimp only at h1 h2 hv
        subst h1 h2 hv
        exact ⟨hget, rfl, rfl, ho⟩
      exact PySem.W.tl_isCall I.kIn J e fun tk => ⟨.bl true, H, I.kept (t' := tk) fun _ _ z => z, rfl, q⟩
def rIsCT (a dd : Addr) (cs : List Addr) : List T → Hw → Kw → Prop := fun ws W Q => match ws with
  | [.ref b, .ref c] => b = a ∧ c ∈ cs ∧ (∃ u, W dd = some (.exc u)) ∧ Q (.bl true) W
  | _ => False
theorem ct_isC {cs : List Addr} (hz : Zc (.ref C) (some dd) oe) (hf : ∃ vs, oe.data = .fields vs) (hk : ∀ c ∈ cs, PySem.W.kitOne X.K (.ref C) (.ref c) = some true) : CallT (X.suite a ((a, oe) :: pn)) (.builtin "isinstance") (rIsCT a dd cs) := by
  refine CallR.imp (call_isC hz hf) ?_
  rintro xs H Q ⟨ws, W, R, rs, rp, h, up⟩
  unfold rIsCT at h
  split at h
  · obtain ⟨rfl, hc, ⟨u, e⟩, q⟩ := h
    obtain ⟨v, r, rfl, q1, q2⟩ := rs.inv_cons
    obtain ⟨v', r', rfl, q3, q4⟩ := q2.inv_cons
    cases q4.inv_nil
    simp only [RelT] at q1 q3
    subst q1 q3
    obtain ⟨v2, e2, _⟩ := rp dd _ e
    exact ⟨_, _, rfl, e2, hk _ hc, up _ _ (up_same rp rel_bl q)⟩
  · exact h.elim
end
end TL

set_option Elab.async false
set_option linter.all false
set_option maxRecDepth 100000
set_option maxHeartbeats 4000000
/-! TL: g(lambda: body), g a def that calls what it got within try -/
namespace TL
open PySem PySem.Spec PyProof.Rows L2
/-- what the lambda's body does: from a heap, to a value's wish and an error's -/
abbrev Tlw := Hw → Kw → (Addr → T → Hw → Prop) → Prop
abbrev SpL := Tlw → Hw → Kw → Prop
/-- one table alone, no code object in sight -/
structure LamOk (P : Addr) (q : Str) (W : Hw) : Prop where
  at_ : W P = some (.tab q)
  one : ∀ a q', W a = some (.tab q') → a = P
  cod : ∀ a q' H0, W a ≠ some (.cod q' H0)
def noTab : O → Bool
  | .tab _ => false
  | .cod _ _ => false
  | _ => true
theorem LamOk.upd {P p : Addr} {q : Str} {W : Hw} {o : O} (h : LamOk P q W) (hp : p ≠ P) (ho : noTab o = true) : LamOk P q (updw W p o) where
  at_ := by rw [updw_ne (Ne.symm hp)]; exact h.at_
  one := fun a q' e => by
    by_cases z : a = p
    · rw [z, updw_same] at e; cases e; cases ho
    · rw [updw_ne z] at e; exact h.one a q' e
  cod := fun a q' H0 e => by
    by_cases z : a = p
    · rw [z, updw_same] at e; cases e; cases ho
    · rw [updw_ne z] at e; exact h.cod a q' H0 e
theorem LamOk.new {P p : Addr} {q : Str} {W : Hw} {o : O} (h : LamOk P q W) (hp : W p = none) (ho : noTab o = true) : LamOk P q (updw W p o) :=
  h.upd (fun z => by rw [z, h.at_] at hp; cases hp) ho
theorem LamOk.lst {P p : Addr} {q : Str} {W : Hw} {o u : O} (h : LamOk P q W) (hp : W p = some u) (hu : noTab u = true) (ho : noTab o = true) : LamOk P q (updw W p o) :=
  h.upd (fun z => by rw [z, h.at_] at hp; cases hp; cases hu) ho
/-- how the V-level thing follows the T-level one, behind the heap H0 -/
def TlOk (K : PySem.W.Frag) (H0 : Hp) (tl : XK → Hp → VK → Prop) (tlw : Tlw) : Prop := ∀ (E : XK) (H' : Hp) (Q' : VK) (W' : Hw) (R' : Kw) (E' : Addr → T → Hw → Prop), Grow K H0 H' → Rep K H' W' → tlw W' R' E' → (∀ v H2, Up K H' R' v H2 → Q' v H2) →
  (∀ C t W2 v dd H2, Grow K H' H2 → H2 dd = some (.xd [(("thing" : Str), v)]) → RelT K H2 t v → (Rep K H2 W2 ∧ W2 dd = none) → E' C t W2 → E (.ref C) (some dd) H2) → tl E H' Q'
def TTl (K : PySem.W.Frag) (S : SpL) : (XK → Hp → VK → Prop) → Hp → VK → Prop := fun tl H Q => ∃ tlw W R, Rep K H W ∧ (∀ a q' H0, W a ≠ some (.cod q' H0)) ∧ S tlw W R ∧ (∀ v H', Up K H R v H' → Q v H') ∧ TlOk K H tl tlw
/-- the reading of the call of the lambda, in the def that got it -/
def wCallF (f c' : Addr) (q : Str) (H0 : Hp) (n : Nat) (tlw : Tlw) : TEw := fun τ W R E => τ[0]? = some (some (.ref f)) ∧ W c' = some (.cod q H0) ∧ ∃ W0, Sub W0 W ∧ tlw W0 R fun C t W' => E C t (List.replicate n none) W'
def wLam (P : Addr) (q : Str) (S : SpL) (tb : TEw) : TEw := fun τ W R E => LamOk P q W ∧ S (fun W' R' E' => tb τ W' R' fun C t _ W2 => E' C t W2) W R
theorem rel_none {K : PySem.W.Frag} {H : Hp} {n : Nat} {σ : L2.St} (h : σ.length = n) : RelS K H (List.replicate n none) σ := by
  refine ⟨by simp [h], fun i t e => ?_⟩
  rw [List.getElem?_replicate] at e
  split at e <;> cases e
section
variable {X : Cx} {Wx : WX}
theorem w_lamcall {S : SpL} {x a : Str} {g c P : Addr} {k : Nat} {pg : Arguments} {bg : List Stmt} {sg : Scope} {dV kV doc pm cdv ct oc : Value} {an od : Option Addr} {osl : Array (Option Value)} {Ng : List Str}
    {params : Arguments} {body : Expr} {scope : Scope} {tb : TEw} {p lpos pos : Pos} (hm : X.mg x = some (.ref g)) (hk : PySem.W.keepIn X.K (.ref g) = true)
    (lk : X.K.lookup g = some ⟨oc, od, .func (PySem.W.fnOf x x pg bg sg dV kV doc pm an cdv ct), osl⟩) (hcg : PySem.W.codeIn X.K cdv x = true) (hb : L2.Binds X.K (PySem.W.fnOf x x pg bg sg dV kV doc pm an cdv ct) [a] []) (Sg : FnScope Ng [a] sg) (hNg : Ng[0]? = some a) (hva : Vis sg a)
    (hG : LamX.GivesTo X Ng x sg g cdv bg a (X.env.qual ++ "<lambda>") (TTl X.K S))
    (TB : LamX.TabB X.base X.mg c P) (hcode : X.env.code = .ref c) (hr : Room (k + 2) X.A) (L : LamX.LamS X.env.scope scope) (hdef : defaultsOf params X.env = ([], []))
    (hbind : ∀ (q : Str) (cl : List (Str × Addr)) (pm cv ctv : Value), bindArgs (PySem.W.kla_fn "<lambda>" q params body scope cl pm cv ctv) ⟨[], []⟩ = pure [])
    (hbody : ∀ (A : Around) (outer : List Env) (s : Shared) (H : Hp) (E : XK) (f c' : Addr), Room k (A.deeper (LamX.lamEnv X scope s.heap.objs.size f c')) → LE (LamX.lamCx X A outer s H E scope f c') (defX E) body tb)
    (hg : Gl X x := by rfl) (hdb : (x == ("__debug__" : Str)) = false := by decide) (hd : (a == ("__debug__" : Str)) = false := by decide) (hcd : (a == ("__classdict__" : Str)) = false := by decide) :
    LE X Wx (.Call (.Name x p) [.Lambda params body scope lpos] [] pos) (wLam P (X.env.qual ++ "<lambda>") S tb) := by
  refine PE.imp (LamX.pe_lamcall (T := [(P, X.env.qual ++ "<lambda>")]) (t := fun E => lowE X.K (defX E) tb) hg hm hk lk hcg hb Sg hNg hva hG TB hcode (List.mem_singleton.mpr rfl) (fun p hp _ => by rw [List.mem_singleton.mp hp]) hr L hdef hbind (fun A outer s H E f c' hr2 => hbody A outer s H E f c' hr2) hdb hd hcd) ?_
  rintro σ H Q ⟨τ, W, R, E, rs, rp, ⟨lo, h⟩, up, ux⟩
  have gE : ∀ H1, LamX.ExtN H H1 → Grow X.K H H1 := fun H1 e => ⟨fun a xs q => e a _ q (fun ps z => by cases z), fun a o u q => e a _ q (fun ps z => by cases z), fun a q z => e a _ z LamX.codeO_ne⟩
  refine ⟨fun p hp => ?_, fun H1 eN T1 => ?_⟩
  · rw [List.mem_singleton.mp hp]
    exact rp P _ lo.at_
  · have g := gE H1 eN
    refine ⟨_, W, R, ?_, lo.cod, h, fun v H' q => up v H' (q.of g), fun E1 H' Q' W' R' E' g' rp' ht hQ hE => ?_⟩
    · intro b o e
      have r := rp b o e
      cases o with
      | lst ts => obtain ⟨vs, q, r⟩ := r; exact ⟨vs, eN b _ q (fun ps z => by cases z), r.grow g⟩
      | dic ts => obtain ⟨vs, q, r⟩ := r; exact ⟨vs, eN b _ q (fun ps z => by cases z), r.grow g⟩
      | dit ts => obtain ⟨vs, q, r⟩ := r; exact ⟨vs, eN b _ q (fun ps z => by cases z), r.grow g⟩
      | exc ts => obtain ⟨vs, q, r⟩ := r; exact ⟨vs, eN b _ q (fun ps z => by cases z), r.grow g⟩
      | tab q' =>
        have hbP := lo.one b q' e
        subst hbP
        rw [lo.at_] at e
        cases e
        exact T1 _ (List.mem_singleton.mpr rfl)
      | cod q' H0 => exact absurd e (lo.cod b q' H0)
    · refine ⟨τ, W', R', _, rs.grow (g.trans g'), rp', ht, hQ, ?_⟩
      intro C t W2 v dd τ' σ' H2 g2 hd2 rv _ rp2 q
      exact hE C t W2 v dd H2 g2 hd2 rv rp2 q
/-- what the def that gets the lambda promises -/
theorem gives_w {S : SpL} {Ng : List Str} {x a q : Str} {sg : Scope} {g : Addr} {cdg : Value} {bg : List Stmt} {tw : TEw → TSw}
    (hbody : ∀ (s : Shared) (H : Hp) (te : TEw), (∀ (Wb : WX) (pn : List (Addr × Obj)) (xe : Value → Shared → Prop) (p1 p2 : Pos), Takes ((cxOf C8.CX0 X.prog X.w X.K X.mg X.base Ng x sg g cdg X.A X.stack s H C8.E0).nox.tr pn xe) Wb → LE ((cxOf C8.CX0 X.prog X.w X.K X.mg X.base Ng x sg g cdg X.A X.stack s H C8.E0).nox.tr pn xe) Wb (.Call (.Name a p1) [] [] p2) te) →
      LSs (cxOf C8.CX0 X.prog X.w X.K X.mg X.base Ng x sg g cdg X.A X.stack s H C8.E0).nox W0x bg (tw te))
    (sem : ∀ (f c' : Addr) (H0 : Hp) (tlw : Tlw) (W : Hw) (R : Kw), S tlw W R → W c' = none → tw (wCallF f c' q H0 Ng.length tlw) (endsF R fun _ _ _ => False) (startw Ng [.ref f]) (updw W c' (.cod q H0))) :
    LamX.GivesTo X Ng x sg g cdg bg a q (TTl X.K S) := by
  intro f c' s H Q tl act hco hTT
  obtain ⟨tlw, W, R, rp, nc, hS, up, ok⟩ := hTT
  have hc' : W c' = none := by
    cases e : W c' with
    | none => rfl
    | some o =>
      have r := rp c' o e
      unfold LamX.CodeO at hco
      cases o with
      | lst ts => obtain ⟨vs, q, r⟩ := r; rw [hco] at q; cases q
      | dic ts => obtain ⟨vs, q, r⟩ := r; rw [hco] at q; cases q
      | dit ts => obtain ⟨vs, q, r⟩ := r; rw [hco] at q; cases q
      | exc ts => obtain ⟨vs, q, r⟩ := r; rw [hco] at q; cases q
      | tab q' => obtain ⟨vs, q, r⟩ := r; rw [hco] at q; cases q
      | cod q' H0 => exact absurd e (nc c' q' H0)
  refine ⟨_, hbody s H (wCallF f c' q H Ng.length tlw) fun Wb pn xe p1 p2 tk => ⟨fun pins s' σ H' Q' I h => ?_⟩, startw Ng [.ref f], updw W c' (.cod q H), endsF R (fun _ _ _ => False), rel_start (.cons (by simp only [RelT]) .nil), ?_, sem f c' H tlw W R hS hc', ⟨?_, ?_, ?_, ?_⟩, ?_⟩
  · obtain ⟨τ, W', R', E', rs, rp', ⟨h0, h1, W0, sb, h2⟩, up', ux'⟩ := h
    have hlen : σ.length = Ng.length := I.len
    have tk1 : Takes ((cxOf C8.CX0 X.prog X.w X.K X.mg X.base Ng x sg g cdg X.A X.stack s H C8.E0).tr pn xe) (fun cls d σ' H2 => σ'.length = Ng.length → Wb cls d σ' H2) := fun u s2 z => by
      obtain ⟨a1, B1, sI, pins1, σ1, H1, cls, d, e1, I1, nb, up1, sky, na, os, ag, w⟩ := z
      exact tk u s2 ⟨a1, B1, sI, pins1, σ1, H1, cls, d, e1, I1, nb, up1, sky, na, os, ag, w I1.len⟩
    obtain ⟨hcod, g0⟩ := rp' c' _ h1
    refine (act _ pn xe (fun cls d H2 => ∀ σ' : L2.St, σ'.length = Ng.length → Wb cls d σ' H2) p1 p2 tk1 (fun cls d σ' H2 z => z σ')).run pins s' σ H' Q' I ⟨?_, hcod, ?_⟩
    · obtain ⟨v, e, r⟩ := rs.2 0 _ h0
      simp only [RelT] at r
      rw [e, r]
    · refine ok _ H' Q' W0 R' _ g0 (rp'.sub sb) h2 up' ?_
      intro C t W2 v dd H2 g2 hd2 rv rp2 z σ' hl
      exact ux' C t W2 v dd _ σ' H2 g2 hd2 rv (rel_none hl) rp2 z
  · intro b o e
    by_cases hb : b = c'
    · rw [hb, updw_same] at e
      cases e
      rw [hb]
      exact ⟨hco, .refl _ _⟩
    · rw [updw_ne hb] at e
      exact rp b o e
  · rintro σ' H' ⟨τ', W', g, rs', rp', W0, sb, z⟩
    exact up _ _ ⟨.non, W0, g, rel_non, rp'.sub sb, z⟩
  · rintro v H' ⟨t, W', g, r', rp', W0, sb, z⟩
    exact up _ _ ⟨t, W0, g, r', rp'.sub sb, z⟩
  · rintro σ' H' ⟨τ', W', g, rs', rp', z⟩
    exact z
  · rintro σ' H' ⟨τ', W', g, rs', rp', z⟩
    exact z
  · rintro C t W' v dd τ' σ' H' g e r' rs' rp' ⟨W0, sb, z⟩
    exact z.elim
end
end TL

set_option Elab.async false
set_option linter.all false
set_option maxRecDepth 100000
set_option maxHeartbeats 4000000
/-! TL: what the head tells, as truths of the written part -/
namespace PySem.TLX
open PySem.W PySem.Calls PyProof.Rows
def clsB (K : Frag) (C : Addr) (cs : List Addr) : Bool := match K.lookup C with
  | some ⟨.type "type", _, .cls cd, sl⟩ => (match cd.mro, sl.toList with
    | .ref C' :: bm, [_, _, _, _, some (.builtin n), _] => C' == C && n == "Exception.__new__" && !cd.hasDel && cd.hasDict && decide (bm = mroE cs)
    | _, _ => false)
  | _ => false
theorem clsB_ok {K : Frag} {C : Addr} {cs : List Addr} (q : clsB K C cs = true) :
    ∃ nm q N bs cs sn sub ab col dd k0 k1 k2 k3 k5, K.lookup C = some (excClassObj nm q C N bs (mroE cs) true sn sub ab col dd k0 k1 k2 k3 k5 "Exception.__new__") := by
  unfold clsB at q
  split at q
  · rename_i dd cd sl ho
    split at q
    · rename_i C' bm k0 k1 k2 k3 n k5 hm hs
      simp only [Bool.and_eq_true, beq_iff_eq, Bool.not_eq_true', decide_eq_true_eq] at q
      obtain ⟨⟨⟨⟨rfl, rfl⟩, hdel⟩, hd⟩, ht⟩ := q
      obtain ⟨nm, bs, mro, ns, qn, hdct, sn, sub, ab, col, del⟩ := cd
      dsimp only at hm hdel hd
      subst hm hdel hd ht
      have hsl : sl = #[k0, k1, k2, k3, some (.builtin "Exception.__new__"), k5] := by
        obtain ⟨l⟩ := sl
        simp only at hs
        rw [hs]
      subst hsl
      exact ⟨nm, qn, ns, bs, cs, sn, sub, ab, col, dd, k0, k1, k2, k3, k5, ho⟩
    · cases q
  · cases q
def errB (K : Frag) (C fI : Addr) (cs : List Addr) : Bool := clsB K C cs && (decide (findIn K (.ref C) "__setattr__" = some (some (.builtin "object.__setattr__"))) && (decide (findIn K (.ref C) "__getattribute__" = some (some (.builtin "BaseException.__getattribute__"))) &&
  (decide (findIn K (.ref C) "__getattr__" = some none) && (decide (findIn K (.ref C) "thing" = some none) && (decide (findIn K (.ref C) "__init__" = some (some (.ref fI))) && (decide (typeIn K (.ref fI) = some (.type "function")) && (keepIn K (.ref C) &&
  (decide (subIn K (.ref C) (.type "BaseException") = some true) && (decide (typeIn K (.ref C) = some (.type "type")) && hasDictIn K C)))))))))
theorem errB_ok {K : Frag} {C fI : Addr} {cs : List Addr} {nm : Str} {p1 p2 q1 q2 q3 q4 : Pos} {fd : FuncData} (h : errB K C fI cs = true) (F : L2.FunD K "__init__" nm (aI p1 p2) (bI q1 q2 q3 q4) sI [] [] fI fd) : ErrC K C fI := by
  unfold errB at h
  simp only [Bool.and_eq_true, decide_eq_true_eq] at h
  obtain ⟨h1, h2, h3, h4, h5, h6, h7, h8, h9, h10, h11⟩ := h
  refine ⟨clsB_ok h1, h2, h3, h4, h5, h6, h7, h8, h9, h10, h11, ?_⟩
  obtain ⟨oc, od, dV, kV, doc, pm, an, cdv, ct, osl, rfl, lk, hcd, hD, hK⟩ := F.ex
  rcases hD with ⟨_, rfl⟩ | ⟨e, _⟩
  · exact ⟨oc, od, nm, kV, doc, pm, an, cdv, ct, osl, p1, p2, q1, q2, q3, q4, lk, hcd⟩
  · exact absurd rfl e
theorem ErrC.xf {K : Frag} {C fI : Addr} (T : ErrC K C fI) : L2.XfC K C := ⟨T.ga, T.gg, T.exC, T.hdC⟩
end PySem.TLX
namespace TL
open PySem PySem.Spec PyProof.Rows L2
theorem fun_of {K : PySem.W.Frag} {x qual : Str} {st : Stmt} {f : Addr} {fd : FuncData} (F : FunD K x qual (defArgs st) (defBody st) (defScope st) [] [] f fd) : Fun K x qual st f fd := by
  obtain ⟨oc, od, dV, kV, doc, pm, an, cdv, ct, osl, rfl, lk, hcd, hD, hK⟩ := F.ex
  rcases hD with ⟨_, rfl⟩ | ⟨e, _⟩
  · exact ⟨⟨oc, od, kV, doc, pm, an, cdv, ct, osl, rfl, lk, hcd⟩, F.kp⟩
  · exact absurd rfl e
/-- FnT.ok, the def's code object told -/
theorem FnT.okC {P : Program} {w : World} {K : PySem.W.Frag} {mg : Str → Option Value} {base : Heap} {x qual : Str} {st : Stmt} {f : Addr} {fd : FuncData} {N ps : List Str} {k : Nat} {S : Spw} {tw : TSw} {p : Str × Option Str} (F : Fun K x qual st f fd) (hf : He.fAd K p = f) (Sc : FnScope N ps (defScope st))
    (len : ∀ ws W R E, S ws W R E → ws.length = ps.length)
    (term : ∀ (A : Around) (outer : List Env) (s : Shared) (H : Hp) (E : XK), Room k (A.deeper (envOfC qual (defScope st) s.heap.objs.size f (.ref (He.codeOf K p)))) →
      LSs (cxOf (L2.CX P w) P w K mg base N qual (defScope st) f (.ref (He.codeOf K p)) A outer s H E) (defX E) (defBody st) tw)
    (sem : ∀ ws W R E, S ws W R E → tw (endsF R E) (startw N ws) W) : FnT P w K mg base (k + 1) f fd ps S := by
  obtain ⟨oc, od, kV, doc, pm, an, cdv, ct, osl, e, lk, hcd⟩ := F.ex
  obtain ⟨c, rfl⟩ := He.codeIn_ref hcd
  have ec : He.codeOf K p = c := by
    refine He.codeOf_eq (by rw [hf]; exact lk) ?_
    rw [e] <;> rfl
  subst e
  refine fn_of lk hcd Sc (fun vs H Q E ⟨ws, W, R, Ew, r, p, h, _⟩ => ?_) (fun A outer s H vs Q E hr ⟨ws, W, R, Ew, r, rp, h, up, ux⟩ => ?_)
  · rw [r.len]; exact len _ _ _ _ h
  · rw [← ec] at hr ⊢
    refine ⟨_, term A outer s H E hr, ⟨startw N ws, W, endsF R Ew, rel_start r, rp, sem ws W R Ew h, ⟨?_, ?_, ?_, ?_⟩, ?_⟩⟩
    · rintro σ' H' ⟨τ', W', g, rs', rp', W0, sb, q⟩
      exact up _ _ ⟨.non, W0, g, rel_non, rp'.sub sb, q⟩
    · rintro v H' ⟨t, W', g, r', rp', W0, sb, q⟩
      exact up _ _ ⟨t, W0, g, r', rp'.sub sb, q⟩
    · rintro σ' H' ⟨τ', W', g, rs', rp', q⟩
      exact q
    · rintro σ' H' ⟨τ', W', g, rs', rp', q⟩
      exact q
    · rintro C t W' v dd τ' σ' H' g e r' rs' rp' ⟨W0, sb, q⟩
      exact ux C t W0 v dd H' g e r' ⟨rp'.1.sub sb, sb.out rp'.2⟩ q
end TL

set_option Elab.async false
set_option linter.all false
set_option maxRecDepth 100000
set_option maxHeartbeats 4000000
/-! TL: for .. in zip(a, b) -/
namespace TL
open PySem PySem.Spec PyProof.Rows L2
theorem pairsT_get : ∀ {xs ys : List T} {i : Nat} {x y : T}, xs[i]? = some x → ys[i]? = some y → (pairsT xs ys)[i]? = some (.tup [x, y])
  | [], _, _, _, _, h, _ => by simp at h
  | _ :: _, [], _, _, _, _, h => by simp at h
  | x :: xs, y :: ys, 0, _, _, h1, h2 => by simp at h1 h2; subst h1 h2; rfl
  | x :: xs, y :: ys, i + 1, _, _, h1, h2 => by
    show (pairsT xs ys)[i]? = _
    exact pairsT_get (by simpa using h1) (by simpa using h2)
theorem pairsT_len : ∀ {xs ys : List T}, (pairsT xs ys).length = min xs.length ys.length
  | [], ys => by simp [pairsT]
  | _ :: _, [] => by simp [pairsT]
  | x :: xs, y :: ys => by
    show (pairsT xs ys).length + 1 = _
    rw [pairsT_len]
    simp [Nat.succ_min_succ]
theorem dlv_zipL {K : PySem.W.Frag} {H0 : Hp} {a b : Addr} {t u : T} {xs ys : List T} (ht : RelT K H0 t (.ref a)) (hu : RelT K H0 u (.ref b)) :
    Dlv K (Itz K a b) (pairsT xs ys) (fun W => kindW W t = some (true, xs) ∧ kindW W u = some (true, ys)) H0 where
  go := fun i H W g rp hc hi => by
    rw [pairsT_len] at hi
    obtain ⟨a', vs, e1, s1, r1⟩ := kindW_sq rp (ht.grow g) hc.1
    obtain ⟨b', us, e2, s2, r2⟩ := kindW_sq rp (hu.grow g) hc.2
    cases e1; cases e2
    obtain ⟨v, q1, _⟩ := r1.get (List.getElem?_eq_getElem (show i < xs.length by omega))
    obtain ⟨u', q2, _⟩ := r2.get (List.getElem?_eq_getElem (show i < ys.length by omega))
    exact ⟨vs, us, v, u', by simpa using s1, by simpa using s2, q1, q2⟩
  stop := fun i H W g rp hc hi => by
    rw [pairsT_len] at hi
    obtain ⟨a', vs, e1, s1, r1⟩ := kindW_sq rp (ht.grow g) hc.1
    obtain ⟨b', us, e2, s2, r2⟩ := kindW_sq rp (hu.grow g) hc.2
    cases e1; cases e2
    have l1 := r1.len
    have l2 := r2.len
    exact ⟨vs, us, by simpa using s1, by simpa using s2, by omega⟩
  yld := fun i H W x H' g rp hc hi ⟨p, v, u', e, n, e', f1, f2⟩ => by
    rw [pairsT_len] at hi
    obtain ⟨a', vs, e1, s1, r1⟩ := kindW_sq rp (ht.grow g) hc.1
    obtain ⟨b', us, e2, s2, r2⟩ := kindW_sq rp (hu.grow g) hc.2
    cases e1; cases e2
    obtain ⟨v1, q1, rv1⟩ := r1.get (List.getElem?_eq_getElem (show i < xs.length by omega))
    obtain ⟨v2, q2, rv2⟩ := r2.get (List.getElem?_eq_getElem (show i < ys.length by omega))
    have f1' := f1 vs (by simpa using s1)
    have f2' := f2 us (by simpa using s2)
    have e5 : v1 = v := Option.some.inj (q1.symm.trans f1')
    subst e5
    have e6 : v2 = u' := Option.some.inj (q2.symm.trans f2')
    subst e6
    subst e; subst e'
    have gn : Grow K H (upd H p (.tup [v1, v2])) := .new n
    refine ⟨_, pairsT_get (List.getElem?_eq_getElem (show i < xs.length by omega)) (List.getElem?_eq_getElem (show i < ys.length by omega)), ?_, gn, rp.new n⟩
    simp only [RelT]
    exact ⟨p, [v1, v2], rfl, upd_same, .cons (rv1.grow gn) (.cons (rv2.grow gn) .nil)⟩
theorem dlv_zipT {K : PySem.W.Frag} {H0 : Hp} {a b : Addr} {t u : T} {xs ys : List T} (ht : RelT K H0 t (.ref a)) (hu : RelT K H0 u (.ref b)) :
    Dlv K (RZ.ItzT K a b) (pairsT xs ys) (fun W => kindW W t = some (false, xs) ∧ kindW W u = some (false, ys)) H0 where
  go := fun i H W g rp hc hi => by
    rw [pairsT_len] at hi
    obtain ⟨a', vs, e1, s1, r1⟩ := kindW_sq rp (ht.grow g) hc.1
    obtain ⟨b', us, e2, s2, r2⟩ := kindW_sq rp (hu.grow g) hc.2
    cases e1; cases e2
    obtain ⟨v, q1, _⟩ := r1.get (List.getElem?_eq_getElem (show i < xs.length by omega))
    obtain ⟨u', q2, _⟩ := r2.get (List.getElem?_eq_getElem (show i < ys.length by omega))
    exact ⟨vs, us, v, u', by simpa using s1, by simpa using s2, q1, q2⟩
  stop := fun i H W g rp hc hi => by
    rw [pairsT_len] at hi
    obtain ⟨a', vs, e1, s1, r1⟩ := kindW_sq rp (ht.grow g) hc.1
    obtain ⟨b', us, e2, s2, r2⟩ := kindW_sq rp (hu.grow g) hc.2
    cases e1; cases e2
    have l1 := r1.len
    have l2 := r2.len
    exact ⟨vs, us, by simpa using s1, by simpa using s2, by omega⟩
  yld := fun i H W x H' g rp hc hi ⟨p, v, u', e, n, e', f1, f2⟩ => by
    rw [pairsT_len] at hi
    obtain ⟨a', vs, e1, s1, r1⟩ := kindW_sq rp (ht.grow g) hc.1
    obtain ⟨b', us, e2, s2, r2⟩ := kindW_sq rp (hu.grow g) hc.2
    cases e1; cases e2
    obtain ⟨v1, q1, rv1⟩ := r1.get (List.getElem?_eq_getElem (show i < xs.length by omega))
    obtain ⟨v2, q2, rv2⟩ := r2.get (List.getElem?_eq_getElem (show i < ys.length by omega))
    have f1' := f1 vs (by simpa using s1)
    have f2' := f2 us (by simpa using s2)
    have e5 : v1 = v := Option.some.inj (q1.symm.trans f1')
    subst e5
    have e6 : v2 = u' := Option.some.inj (q2.symm.trans f2')
    subst e6
    subst e; subst e'
    have gn : Grow K H (upd H p (.tup [v1, v2])) := .new n
    refine ⟨_, pairsT_get (List.getElem?_eq_getElem (show i < xs.length by omega)) (List.getElem?_eq_getElem (show i < ys.length by omega)), ?_, gn, rp.new n⟩
    simp only [RelT]
    exact ⟨p, [v1, v2], rfl, upd_same, .cons (rv1.grow gn) (.cons (rv2.grow gn) .nil)⟩
/-- zip(a, b) in a for: two lists, or two tuples -/
def wZipI (t : TAw) : TIw := fun τ W R E => t τ W (fun ts W1 => ∃ t u k xs ys, ts = [t, u] ∧ kindW W1 t = some (k, xs) ∧ kindW W1 u = some (k, ys) ∧ R (pairsT xs ys) (fun W => kindW W t = some (k, xs) ∧ kindW W u = some (k, ys)) W1) E
theorem i_zip {X : Cx} {Wx : WX} {a b : Expr} {ta : TAw} {p pos tpos : Pos} {elts : List Expr} {kk : Nat} (hm : X.mg "zip" = none) (ha : LA X Wx [a, b] ta) (hg : Gl X "zip" := by rfl)
    (hs : starEach [a, b] X.env = (false, eval a X.env) :: starEach [b] X.env := by rfl) (hpl : (backTo pos (starEach [b] X.env)).any (·.1) = false := by rfl) :
    LI X Wx (.Tuple elts kk tpos) (.Call (.Name "zip" p) [a, b] [] pos) (wZipI ta) := by
  refine PI.imp (RZ.pi_zipA hg hm ha hs hpl) ?_
  rintro σ H R ⟨τ, W, Rr, E, rs, rp, h, up, ux⟩
  refine lowA.go rs rp h (fun ts W1 vs H1 g r1 p1 h1 => ?_) ux
  obtain ⟨t, u, k, xs, ys, rfl, k1, k2, hR⟩ := h1
  obtain ⟨v1, r, rfl, q1, q2⟩ := r1.inv_cons
  obtain ⟨v2, r', rfl, q3, q4⟩ := q2.inv_cons
  cases q4.inv_nil
  obtain ⟨c1, ws1, rfl, s1, w1⟩ := kindW_sq p1 q1 k1
  obtain ⟨c2, ws2, rfl, s2, w2⟩ := kindW_sq p1 q3 k2
  cases k with
  | true => exact ⟨c1, c2, ws1, ws2, rfl, .inl ⟨by simpa using s1, by simpa using s2, up _ _ _ _ _ g (dlv_zipL q1 q3) p1 hR⟩⟩
  | false => exact ⟨c1, c2, ws1, ws2, rfl, .inr ⟨by simpa using s1, by simpa using s2, up _ _ _ _ _ g (dlv_zipT q1 q3) p1 hR⟩⟩
end TL

set_option Elab.async false
set_option linter.all false
set_option maxRecDepth 100000
set_option maxHeartbeats 4000000
/-! TL: a def by its name: what it promises -/
namespace TL
open PySem PySem.Spec PyProof.Rows L2
structure Cal (P : Program) (w : World) (K : PySem.W.Frag) (mg : Str → Option Value) (base : Heap) (k : Nat) (x : Str) (st : Stmt) (ps : List Str) (S : Spw) : Prop where
  ex : ∃ f fd, mg x = some (.ref f) ∧ Fun K x x st f fd ∧ Binds K fd ps [] ∧ FnT P w K mg base k f fd ps S
section
variable {X : Cx} {Wx : WX} {k j : Nat} {x : Str} {st : Stmt} {ps ks : List Str} {S : Spw} {e : Expr} {es : List Expr} {t : TAw} {p pos : Pos}
theorem w_cal (C : Cal X.prog X.w X.K X.mg X.base k x st ps S) (hr : Room j X.A) (tk : Takes X Wx) (ha : LA X Wx (e :: es) t) (hj : k ≤ j := by decide)
    (hg : Gl X x := by rfl) (hdb : (x == ("__debug__" : Str)) = false := by decide) (he : starEach (e :: es) X.env = (false, eval e X.env) :: starEach es X.env := by rfl) (hpl : (backTo pos (starEach es X.env)).any (·.1) = false := by rfl) :
    LE X Wx (.Call (.Name x p) (e :: es) [] pos) (wCall S t) := by
  obtain ⟨f, fd, gm, F, hb, G⟩ := C.ex
  exact w_call G (hr.mono hj) gm F.kp hb tk ha hg hdb he hpl
theorem w_calK {kws : List Keyword} {is : List Nat} (C : Cal X.prog X.w X.K X.mg X.base k x st ps S) (hr : Room j X.A) (tk : Takes X Wx)
    (hb : ∀ (kV doc pm : Value) (an : Option Addr) (cdv ct : Value) (ws : List Value), (pmI is ws).length = ps.length → bindArgs (PySem.W.fnOf x x (defArgs st) (defBody st) (defScope st) .none kV doc pm an cdv ct) ⟨[], ks.zip ws⟩ = pure (ps.zip (pmI is ws)))
    (hkw : LK X Wx kws t) (hj : k ≤ j := by decide)
    (hg : Gl X x := by rfl) (hall : (backToKw pos (keywordEach kws X.env)).all (·.1.isSome) = true := by rfl) (hks : (backToKw pos (keywordEach kws X.env)).filterMap (·.1) = ks := by rfl) (hdb : (x == ("__debug__" : Str)) = false := by decide)
    (hpl : ((backTo pos (starEach [] X.env)).any (·.1) || (backToKw pos (keywordEach kws X.env)).any (·.1.isNone)) = false := by rfl) :
    LE X Wx (.Call (.Name x p) [] kws pos) (wCallK S is t) := by
  obtain ⟨f, fd, gm, F, _, G⟩ := C.ex
  obtain ⟨oc, od, kV, doc, pm, an, cdv, ct, osl, rfl, lk, hcd⟩ := F.ex
  exact w_callK G (hr.mono hj) gm F.kp (fun s ws KX hl => .of_eq (hb kV doc pm an cdv ct ws hl)) tk hkw hg hall hks hdb hpl
end
theorem pmI_inv {α : Type} {is : List Nat} {ws : List α} {n : Nat} (h : (pmI is ws).length = n) (hl : is.length = n) : ∀ i ∈ is, i < ws.length := by
  intro i hi
  refine Nat.lt_of_not_le fun hle => ?_
  have z : (pmI is ws).length < is.length := by
    unfold pmI
    clear h hl
    induction is with
    | nil => cases hi
    | cons a r ih =>
      rw [List.filterMap_cons]
      have le : ∀ l : List Nat, (l.filterMap fun i => ws[i]?).length ≤ l.length := fun l => List.length_filterMap_le ..
      rcases List.mem_cons.mp hi with e | e
      · subst e
        rw [List.getElem?_eq_none hle]
        exact Nat.lt_succ_of_le (le r)
      · have q := ih e
        cases ws[a]? with
        | none => exact Nat.lt_succ_of_lt q
        | some y => exact Nat.succ_lt_succ q
  omega
/-- what the head's facts give -/
theorem sx_fact {fa : List He.Fa} {fn : List He.DefD} {tf : List He.Defn} {ex : PySem.W.Frag → Bool} {w : World} {h : Heap} {K : PySem.W.Frag} (c : He.SaysX fa fn [] tf ex w h K) {f : He.Fa} (hf : f ∈ fa) : f.ok K = true := c.t.d.facts hf
theorem sx_fun {fa : List He.Fa} {fn : List He.DefD} {tf : List He.Defn} {ex : PySem.W.Frag → Bool} {w : World} {h : Heap} {K : PySem.W.Frag} (c : He.SaysX fa fn [] tf ex w h K) {x : Str} {st : Stmt} (hd : (⟨(x, none), x, x, defArgs st, defBody st, defScope st, [], []⟩ : He.DefD) ∈ fn) : ∃ fd, Fun K x x st (He.ga K x) fd := by
  obtain ⟨fd, F⟩ := c.t.d.defs hd
  exact ⟨fd, fun_of F⟩
/-! ### a, b = x, y with plain local names -/
def wPar (i j : Nat) (t : TAw) : TSw := fun D τ W => t τ W (fun ts W1 => match ts with
  | [a, b] => D.nx ((τ.set i (some a)).set j (some b)) W1
  | _ => False) D.ex
def wPar3 (i j l : Nat) (t : TAw) : TSw := fun D τ W => t τ W (fun ts W1 => match ts with
  | [a, b, c] => D.nx (((τ.set i (some a)).set j (some b)).set l (some c)) W1
  | _ => False) D.ex
section
variable {X : Cx} {Wx : WX} {t : TAw}
theorem s_par (i j : Nat) {x y : Str} {a b : Expr} {px py pt pos : Pos} {kt k2 pt2} (hN : X.N.Nodup) (ha : LA X Wx [a, b] t) (hc : X.calm = true := by rfl) (hi : X.N[i]? = some x := by rfl) (hj : X.N[j]? = some y := by rfl) (hij : i ≠ j := by decide)
    (hx : X.env.scope.names.lookup x = some .local := by rfl) (hy : X.env.scope.names.lookup y = some .local := by rfl)
    (hw : swappedStores [.Tuple [.Name x px, .Name y py] kt pt] (.Tuple [a, b] k2 pt2) X.env = pure (some [x, y]) := by rfl)
    (hs : swapsWithSole [.Tuple [.Name x px, .Name y py] kt pt] (.Tuple [a, b] k2 pt2) pos.line X.env = pure false := by rfl) :
    LS X Wx (.Assign [.Tuple [.Name x px, .Name y py] kt pt] (.Tuple [a, b] k2 pt2) pos) (wPar i j t) := by
  refine PS.imp (ps_par hc hN hi hj hij hx hy ha hw hs) ?_
  rintro D σ H ⟨τ, W, Dw, rs, rp, h, ud, ux⟩
  refine lowA.go rs rp h (fun ts W1 vs H1 g r p1 h1 => ?_) ux
  split at h1
  · obtain ⟨v, r1, rfl, q1, q2⟩ := r.inv_cons
    obtain ⟨v2, r2, rfl, q3, q4⟩ := q2.inv_cons
    cases q4.inv_nil
    exact ⟨v, v2, rfl, ud.nx _ _ ⟨_, W1, g, ((rs.grow g).set i q1).set j q3, p1, h1⟩⟩
  · exact h1.elim
theorem s_par3 (i j l : Nat) {x y z : Str} {a b c : Expr} {px py pz pt pos : Pos} {kt k2 pt2} (hN : X.N.Nodup) (ha : LA X Wx [a, b, c] t) (hc : X.calm = true := by rfl) (hi : X.N[i]? = some x := by rfl) (hj : X.N[j]? = some y := by rfl) (hl : X.N[l]? = some z := by rfl) (hij : i ≠ j := by decide) (hil : i ≠ l := by decide) (hjl : j ≠ l := by decide)
    (hx : X.env.scope.names.lookup x = some .local := by rfl) (hy : X.env.scope.names.lookup y = some .local := by rfl) (hz : X.env.scope.names.lookup z = some .local := by rfl)
    (hw : swappedStores [.Tuple [.Name x px, .Name y py, .Name z pz] kt pt] (.Tuple [a, b, c] k2 pt2) X.env = pure (some [x, y, z]) := by rfl)
    (hs : swapsWithSole [.Tuple [.Name x px, .Name y py, .Name z pz] kt pt] (.Tuple [a, b, c] k2 pt2) pos.line X.env = pure false := by rfl) :
    LS X Wx (.Assign [.Tuple [.Name x px, .Name y py, .Name z pz] kt pt] (.Tuple [a, b, c] k2 pt2) pos) (wPar3 i j l t) := by
  refine PS.imp (ps_par3 hc hN hi hj hl hij hil hjl hx hy hz ha hw hs) ?_
  rintro D σ H ⟨τ, W, Dw, rs, rp, h, ud, ux⟩
  refine lowA.go rs rp h (fun ts W1 vs H1 g r p1 h1 => ?_) ux
  split at h1
  · obtain ⟨v, r1, rfl, q1, q2⟩ := r.inv_cons
    obtain ⟨v2, r2, rfl, q3, q4⟩ := q2.inv_cons
    obtain ⟨v3, r3, rfl, q5, q6⟩ := q4.inv_cons
    cases q6.inv_nil
    exact ⟨v, v2, v3, rfl, ud.nx _ _ ⟨_, W1, g, (((rs.grow g).set i q1).set j q3).set l q5, p1, h1⟩⟩
  · exact h1.elim
end
end TL

set_option Elab.async false
set_option linter.all false
set_option maxRecDepth 100000
set_option maxHeartbeats 4000000
/-! TL: readings of isinstance; the deck of draws; things that are the same -/
namespace TL
open PySem PySem.Spec PyProof.Rows L2
/-! ### isinstance -/
def isIntT : T → Bool
  | .int _ => true
  | .bl _ => true
  | _ => false
def isBlT : T → Bool
  | .bl _ => true
  | _ => false
def isStrT : T → Bool
  | .str _ => true
  | _ => false
def isTupT : T → Bool
  | .tup _ => true
  | _ => false
def isLstT (W : Hw) : T → Bool
  | .rol _ => true
  | .ref a => match W a with
    | some (.lst _) => true
    | _ => false
  | _ => false
def Ty (W : Hw) (t : T) : Prop := (tyName W t).isSome = true
section
variable {W : Hw} {t : T} {Q : Kw}
theorem rIsi_of {n : String} {b : Bool} (h : Ty W t) (hn : n ∈ okTys) (hb : ∀ m, tyName W t = some m → subTy m n = b) : rIsi [t, .ty n] W Q = Q (.bl b) W := by
  unfold Ty at h
  obtain ⟨m, hm⟩ := Option.isSome_iff_exists.mp h
  unfold rIsi
  simp only [hm, hn, true_and, hb m hm]
theorem rIsi_int (h : Ty W t) : rIsi [t, .ty "int"] W Q = Q (.bl (isIntT t)) W := by
  refine rIsi_of h (by decide) fun m hm => ?_
  unfold tyName at hm
  split at hm
  all_goals first
    | (cases hm; rfl)
    | (split at hm <;> first | (cases hm; rfl) | cases hm)
    | cases hm
theorem rIsi_bool (h : Ty W t) : rIsi [t, .ty "bool"] W Q = Q (.bl (isBlT t)) W := by
  refine rIsi_of h (by decide) fun m hm => ?_
  unfold tyName at hm
  split at hm
  all_goals first
    | (cases hm; rfl)
    | (split at hm <;> first | (cases hm; rfl) | cases hm)
    | cases hm
theorem rIsi_str (h : Ty W t) : rIsi [t, .ty "str"] W Q = Q (.bl (isStrT t)) W := by
  refine rIsi_of h (by decide) fun m hm => ?_
  unfold tyName at hm
  split at hm
  all_goals first
    | (cases hm; rfl)
    | (split at hm <;> first | (cases hm; rfl) | cases hm)
    | cases hm
theorem rIsi_tup (h : Ty W t) : rIsi [t, .ty "tuple"] W Q = Q (.bl (isTupT t)) W := by
  refine rIsi_of h (by decide) fun m hm => ?_
  unfold tyName at hm
  split at hm
  all_goals first
    | (cases hm; rfl)
    | (split at hm <;> first | (cases hm; rfl) | cases hm)
    | cases hm
theorem rIsi_list (h : Ty W t) : rIsi [t, .ty "list"] W Q = Q (.bl (isLstT W t)) W := by
  refine rIsi_of h (by decide) fun m hm => ?_
  unfold tyName at hm
  split at hm
  all_goals first
    | (cases hm; rfl)
    | (split at hm <;> first | (cases hm; simp [isLstT, *]; rfl) | cases hm)
    | cases hm
theorem ty_non : Ty W .non := rfl
theorem ty_bl {b : Bool} : Ty W (.bl b) := rfl
theorem ty_int {i : Int} : Ty W (.int i) := rfl
theorem ty_str {x : Str} : Ty W (.str x) := rfl
theorem ty_tup {xs : List T} : Ty W (.tup xs) := rfl
theorem ty_rol {xs : List T} : Ty W (.rol xs) := rfl
theorem ty_lst {a : Addr} {xs : List T} (h : W a = some (.lst xs)) : Ty W (.ref a) := by simp [Ty, tyName, h]
end
/-! ### old things stay but for two -/
structure Fr (d l : Addr) (W W' : Hw) : Prop where
  old : ∀ a o, a ≠ d → a ≠ l → W a = some o → W' a = some o
  tab : ∀ a o, W' a = some o → noTab o = false → W a = some o
section
variable {d l p : Addr} {W W1 W2 : Hw} {o : O}
theorem Fr.refl : Fr d l W W := ⟨fun _ _ _ _ h => h, fun _ _ h _ => h⟩
theorem Fr.trans (a : Fr d l W W1) (b : Fr d l W1 W2) : Fr d l W W2 := ⟨fun x o h1 h2 h => b.old x o h1 h2 (a.old x o h1 h2 h), fun x o h n => a.tab x o (b.tab x o h n) n⟩
theorem Fr.new (h : W p = none) (n : noTab o = true) : Fr d l W (updw W p o) := ⟨fun x u _ _ e => by rw [updw_ne (fun z => by rw [z, h] at e; cases e)]; exact e, fun x u e k => by
  by_cases z : x = p
  · rw [z, updw_same] at e; cases e; rw [n] at k; cases k
  · rw [updw_ne z] at e; exact e⟩
theorem Fr.updD (n : noTab o = true) : Fr d l W (updw W d o) := ⟨fun x u h1 h2 e => by rw [updw_ne h1]; exact e, fun x u e k => by
  by_cases z : x = d
  · rw [z, updw_same] at e; cases e; rw [n] at k; cases k
  · rw [updw_ne z] at e; exact e⟩
theorem Fr.updL (n : noTab o = true) : Fr d l W (updw W l o) := ⟨fun x u h1 h2 e => by rw [updw_ne h2]; exact e, fun x u e k => by
  by_cases z : x = l
  · rw [z, updw_same] at e; cases e; rw [n] at k; cases k
  · rw [updw_ne z] at e; exact e⟩
/-- written at a place that is new since W -/
theorem Fr.upd (f : Fr d l W W1) (h : W p = none) (n : noTab o = true) : Fr d l W (updw W1 p o) := ⟨fun x u h1 h2 e => by rw [updw_ne (fun z => by rw [z, h] at e; cases e)]; exact f.old x u h1 h2 e, fun x u e k => by
  by_cases z : x = p
  · rw [z, updw_same] at e; cases e; rw [n] at k; cases k
  · rw [updw_ne z] at e; exact f.tab x u e k⟩
theorem Fr.lam {P : Addr} {q : Str} (f : Fr d l W W1) (h : LamOk P q W) (hd : d ≠ P) (hl : l ≠ P) : LamOk P q W1 :=
  ⟨f.old P _ (Ne.symm hd) (Ne.symm hl) h.at_, fun a q' e => h.one a q' (f.tab a _ e rfl), fun a q' H0 e => h.cod a q' H0 (f.tab a _ e rfl)⟩
end
/-- the deck of draws: its dict at d, its cells at l -/
def Deck (d l : Addr) (W : Hw) : Prop := ∃ (cs : List Int) (m n : Int), W d = some (.dic [(.inr "cells", .ref l), (.inr "mixed", .int m), (.inr "draws", .int n)]) ∧ W l = some (.lst (cs.map T.int)) ∧ cs.length ≤ 63
abbrev dkL (l : Addr) (m n : Int) : List (Key × T) := [(.inr "cells", .ref l), (.inr "mixed", .int m), (.inr "draws", .int n)]
theorem dk_cells {l : Addr} {m n : Int} : lookT (dkL l m n) (.inr "cells") = some (.ref l) := rfl
theorem dk_mixed {l : Addr} {m n : Int} : lookT (dkL l m n) (.inr "mixed") = some (.int m) := rfl
theorem dk_draws {l : Addr} {m n : Int} : lookT (dkL l m n) (.inr "draws") = some (.int n) := rfl
theorem dk_put {l : Addr} {m n k : Int} : putT (dkL l m n) (.inr "draws") (.int k) = dkL l m k := rfl
theorem dk_len {l : Addr} {m n : Int} : (dkL l m n).length = 3 := rfl
theorem pop_get {α : Type} (xs : List α) (y : α) : (xs ++ [y])[(xs ++ [y]).length - 1]? = some y := by simp
theorem cmul_l {i j : Int} (h : -18446744073709551616 < i) (h2 : i < 18446744073709551616) : CMul i j := .inl ⟨by
  have e : (2 : Int) ^ 64 = 18446744073709551616 := by decide
  rw [e]; exact h, by
  have e : (2 : Int) ^ 64 = 18446744073709551616 := by decide
  rw [e]; exact h2⟩
theorem cmul_r {i j : Int} (h : -18446744073709551616 < j) (h2 : j < 18446744073709551616) : CMul i j := .inr ⟨by
  have e : (2 : Int) ^ 64 = 18446744073709551616 := by decide
  rw [e]; exact h, by
  have e : (2 : Int) ^ 64 = 18446744073709551616 := by decide
  rw [e]; exact h2⟩
theorem cmul_mod {a m b : Int} (h : 0 < m) (h2 : m < 18446744073709551616) : CMul (a % m) b :=
  cmul_l (by have := Int.emod_nonneg a (Int.ne_of_gt h); omega) (by have := Int.emod_lt_of_pos a h; omega)
theorem Deck.ne {d l : Addr} {W : Hw} (h : Deck d l W) : d ≠ l := by
  obtain ⟨cs, m, n, h1, h2, _⟩ := h
  intro z
  rw [z, h2] at h1; cases h1
/-! ### the same -/
mutual
inductive Sm (W : Hw) : Nat → T → T → Prop where
  | non : Sm W 1 .non .non
  | bl (b : Bool) : Sm W 1 (.bl b) (.bl b)
  | int (i : Int) : Sm W 1 (.int i) (.int i)
  | str (x : Str) : Sm W 1 (.str x) (.str x)
  | tup {n : Nat} {ts us : List T} : Sms W n ts us → Sm W (n + 1) (.tup ts) (.tup us)
  | lst {n : Nat} {a b : Addr} {ts us : List T} : W a = some (.lst ts) → W b = some (.lst us) → Sms W n ts us → Sm W (n + 1) (.ref a) (.ref b)
inductive Sms (W : Hw) : Nat → List T → List T → Prop where
  | nil : Sms W 0 [] []
  | cons {m n : Nat} {t u : T} {ts us : List T} : Sm W m t u → Sms W n ts us → Sms W (m + n) (t :: ts) (u :: us)
end
mutual
theorem Sm.sub {W W' : Hw} (s : Sub W W') : ∀ {n : Nat} {t u : T}, Sm W n t u → Sm W' n t u
  | _, _, _, .non => .non
  | _, _, _, .bl b => .bl b
  | _, _, _, .int i => .int i
  | _, _, _, .str x => .str x
  | _, _, _, .tup h => .tup (Sms.sub s h)
  | _, _, _, .lst h1 h2 h => .lst (s _ _ h1) (s _ _ h2) (Sms.sub s h)
theorem Sms.sub {W W' : Hw} (s : Sub W W') : ∀ {n : Nat} {ts us : List T}, Sms W n ts us → Sms W' n ts us
  | _, _, _, .nil => .nil
  | _, _, _, .cons h r => .cons (Sm.sub s h) (Sms.sub s r)
end
theorem Sms.len {W : Hw} : ∀ {n : Nat} {ts us : List T}, Sms W n ts us → ts.length = us.length
  | _, _, _, .nil => rfl
  | _, _, _, .cons _ r => by simp only [List.length_cons, Sms.len r]
theorem Sm.pos {W : Hw} {n : Nat} {t u : T} (h : Sm W n t u) : 1 ≤ n := by
  cases h <;> omega
theorem Sms.le {W : Hw} : ∀ {n : Nat} {ts us : List T}, Sms W n ts us → ts.length ≤ n
  | _, _, _, .nil => Nat.le_refl _
  | _, _, _, .cons h r => by
    have := h.pos
    have := Sms.le r
    simp only [List.length_cons]
    omega
theorem Sms.app {W : Hw} : ∀ {m n : Nat} {ts us vs ws : List T}, Sms W m ts us → Sms W n vs ws → Sms W (m + n) (ts ++ vs) (us ++ ws)
  | _, _, _, _, _, _, .nil, h => by rw [Nat.zero_add]; exact h
  | _, n, _, _, _, _, .cons h r, k => by
    rw [Nat.add_assoc]
    exact .cons h (Sms.app r k)
/-- what waits: pairs of the same, the work that they make -/
inductive Todo (W : Hw) : Nat → List T → Prop where
  | nil : Todo W 0 []
  | cons {m n : Nat} {t u : T} {ps : List T} : Sm W m t u → Todo W n ps → Todo W (m + n) (.tup [t, u] :: ps)
theorem Todo.app {W : Hw} : ∀ {m n : Nat} {ps qs : List T}, Todo W m ps → Todo W n qs → Todo W (m + n) (ps ++ qs)
  | _, _, _, _, .nil, h => by rw [Nat.zero_add]; exact h
  | _, n, _, _, .cons h r, k => by
    rw [Nat.add_assoc]
    exact .cons h (Todo.app r k)
theorem Todo.le {W : Hw} : ∀ {n : Nat} {ps : List T}, Todo W n ps → ps.length ≤ n
  | _, _, .nil => Nat.le_refl _
  | _, _, .cons h r => by
    have := h.pos
    have := Todo.le r
    simp only [List.length_cons]
    omega
theorem Todo.pairs {W : Hw} : ∀ {n : Nat} {ts us : List T}, Sms W n ts us → Todo W n (pairsT ts us)
  | _, _, _, .nil => .nil
  | _, _, _, .cons h r => .cons h (Todo.pairs r)
theorem Todo.snoc {W : Hw} : ∀ {n : Nat} {ps : List T} {p : T}, Todo W n (ps ++ [p]) → ∃ m k t u, p = .tup [t, u] ∧ Sm W m t u ∧ Todo W k ps ∧ n = k + m
  | _, [], p, h => by
    cases h with
    | cons h r => cases r; exact ⟨_, 0, _, _, rfl, h, .nil, by omega⟩
  | _, q :: ps, p, h => by
    cases h with
    | cons h r =>
      obtain ⟨m, k, t, u, e, h1, h2, h3⟩ := Todo.snoc r
      exact ⟨m, _, t, u, e, h1, .cons h h2, by omega⟩
theorem Sm.ty {W : Hw} {n : Nat} {t u : T} (h : Sm W n t u) : Ty W t ∧ Ty W u := by
  cases h with
  | non => exact ⟨rfl, rfl⟩
  | bl b => exact ⟨rfl, rfl⟩
  | int b => exact ⟨rfl, rfl⟩
  | str b => exact ⟨rfl, rfl⟩
  | tup _ => exact ⟨rfl, rfl⟩
  | lst h1 h2 _ => exact ⟨ty_lst h1, ty_lst h2⟩

/-! ### a comprehension, turn by turn -/
theorem lcGo_inv {α : Type} {g : Tgt} {te : TEw} {chk : Hw → Prop} {p : Addr} {τ0 : Sw} {Q : Hw → Prop} (it : α → T) (Inv : List T → Hw → Prop) :
    ∀ (l : List α) (acc : List T) (W : Hw), (∀ x ∈ l, ∃ τ', setG g (it x) τ0 = some τ' ∧ ∀ (acc : List T) (W : Hw) (R : Kw), Inv acc W → W p = some (.lst acc) → (∀ y W3, W3 p = some (.lst acc) → Inv (acc ++ [y]) (updw W3 p (.lst (acc ++ [y]))) → R y W3) → te τ' W R E0x) →
      (∀ acc W, Inv acc W → W p = some (.lst acc) → chk W) → acc.length + l.length ≤ sizeLine → Inv acc W → W p = some (.lst acc) → (∀ acc' W', acc'.length = acc.length + l.length → Inv acc' W' → W' p = some (.lst acc') → Q W') →
      wLcGo g wYes te chk p τ0 Q (l.map it) acc W
  | [], acc, W, hs, hc, hl, hi, hp, hq => ⟨hc acc W hi hp, hp, hq acc W rfl hi hp⟩
  | x :: l, acc, W, hs, hc, hl, hi, hp, hq => by
    refine ⟨hc acc W hi hp, ?_⟩
    obtain ⟨τ', e, h⟩ := hs x List.mem_cons_self
    simp only [e, wYes, if_true]
    refine h acc W _ hi hp fun y W3 h3 hi3 => ⟨h3, by simp only [List.length_cons] at hl; omega, ?_⟩
    refine lcGo_inv it Inv l (acc ++ [y]) _ (fun x hx => hs x (List.mem_cons_of_mem _ hx)) hc (by simp only [List.length_cons, List.length_append, List.length_nil] at hl ⊢; omega) hi3 updw_same fun acc' W' hl' hi' hp' => hq acc' W' (by simp only [List.length_cons, List.length_append, List.length_nil] at hl' ⊢; omega) hi' hp'
theorem lcGo_map {α : Type} {g : Tgt} {te : TEw} {chk : Hw → Prop} {p : Addr} {τ0 : Sw} {Q : Hw → Prop} {W0 : Hw} (it f : α → T) : ∀ (l : List α) (acc : List T), (∀ x ∈ l, ∃ τ', setG g (it x) τ0 = some τ' ∧ ∀ (acc : List T) (R : Kw), R (f x) (updw W0 p (.lst acc)) → te τ' (updw W0 p (.lst acc)) R E0x) →
      (∀ acc, chk (updw W0 p (.lst acc))) → acc.length + l.length ≤ sizeLine → Q (updw W0 p (.lst (acc ++ l.map f))) → wLcGo g wYes te chk p τ0 Q (l.map it) acc (updw W0 p (.lst acc))
  | [], acc, hs, hc, hl, hq => ⟨hc acc, updw_same, by simpa using hq⟩
  | x :: l, acc, hs, hc, hl, hq => by
    refine ⟨hc acc, ?_⟩
    obtain ⟨τ', e, h⟩ := hs x List.mem_cons_self
    simp only [e, wYes, if_true]
    refine h acc _ ⟨updw_same, by simp only [List.length_cons] at hl; omega, ?_⟩
    rw [updw_updw]
    exact lcGo_map it f l (acc ++ [f x]) (fun x hx => hs x (List.mem_cons_of_mem _ hx)) hc (by simp only [List.length_cons, List.length_append, List.length_nil] at hl ⊢; omega) (by simpa using hq)
/-! ### texts as lists of signs -/
abbrev S (l : List Nat) : Str := ⟨l.toArray⟩
theorem S_len (l : List Nat) : (S l).length = l.length := by simp [S, Str.length]
theorem S_cat (a b : List Nat) : S a ++ S b = S (a ++ b) := SX.S_cat a b
theorem S_of (x : Str) : ∃ l, x = S l := ⟨x.cps.toList, by simp [S]⟩
theorem S_inj {a b : List Nat} (h : S a = S b) : a = b := SX.S_inj h
theorem cut_lo {l : List Nat} {a : Int} (h0 : 0 ≤ a) (h1 : a ≤ l.length) : cutS (S l) none (some a) = S (l.take a.toNat) := by
  obtain ⟨n, rfl⟩ := Int.eq_ofNat_of_zero_le h0
  have e : HT.sIx (S l).length (S l).length (some (n : Int)) = n := by rw [HT.sIx_nat, S_len]; omega
  show S _ = _
  have e' : HT.sIx (S l).length (S l).length (some ((n : Nat) : Int)) - HT.sIx (S l).length 0 none = n := by rw [e, HT.sIx_none]; rfl
  unfold S at e' ⊢
  rw [e', HT.sIx_none]
  simp
theorem cut_hi {l : List Nat} {a : Int} (h0 : 0 ≤ a) (h1 : a ≤ l.length) : cutS (S l) (some a) none = S (l.drop a.toNat) := by
  obtain ⟨n, rfl⟩ := Int.eq_ofNat_of_zero_le h0
  have e : HT.sIx (S l).length 0 (some (n : Int)) = n := by rw [HT.sIx_nat, S_len]; omega
  unfold cutS
  rw [e, HT.sIx_none, S_len, List.take_of_length_le (by simp [S])]
  simp [S]
theorem cut_mid {l : List Nat} {a b : Int} (h0 : 0 ≤ a) (h1 : a ≤ b) (h2 : b ≤ l.length) : cutS (S l) (some a) (some b) = S ((l.drop a.toNat).take (b.toNat - a.toNat)) := by
  obtain ⟨n, rfl⟩ := Int.eq_ofNat_of_zero_le h0
  obtain ⟨m, rfl⟩ := Int.eq_ofNat_of_zero_le (Int.le_trans h0 h1)
  have e1 : HT.sIx (S l).length 0 (some (n : Int)) = n := by rw [HT.sIx_nat, S_len]; omega
  have e2 : HT.sIx (S l).length (S l).length (some (m : Int)) = m := by rw [HT.sIx_nat, S_len]; omega
  unfold cutS
  rw [e1, e2]
  simp [S]
/-! ### for, turn by turn -/
theorem forGo_inv {α : Type} {g : Tgt} {tb : TSw} {chk : Hw → Prop} {D : EndsW} (it : α → T) (Inv : List α → Sw → Hw → Prop)
    (hs : ∀ (x : α) (r : List α) (τ : Sw) (W : Hw), Inv (x :: r) τ W → chk W ∧ ∃ τ', setG g (it x) τ = some τ' ∧ ∀ (N : Sw → Hw → Prop), (∀ τ2 W2, Inv r τ2 W2 → N τ2 W2) → tb { D with nx := N, ct := N, bk := D.nx } τ' W)
    (he : ∀ τ W, Inv [] τ W → chk W ∧ D.nx τ W) : ∀ (l : List α) (τ : Sw) (W : Hw), Inv l τ W → wForGo g tb chk (l.map it) D τ W
  | [], τ, W, h => he τ W h
  | x :: r, τ, W, h => by
    obtain ⟨hc, τ', e, hb⟩ := hs x r τ W h
    refine ⟨hc, ?_⟩
    simp only [e]
    exact hb _ fun τ2 W2 h2 => forGo_inv it Inv hs he r τ2 W2 h2
/-! ### items -/
theorem rLen_items {W : Hw} {t : T} {xs : List T} {Q : Kw} (h : itemsT W t = some xs) : rLen [t] W Q = Q (.int xs.length) W := by
  cases t with
  | tup ts => simp only [itemsT, Option.some.injEq] at h; subst h; rfl
  | rol ts => simp only [itemsT, Option.some.injEq] at h; subst h; rfl
  | ref a =>
    simp only [itemsT] at h
    split at h
    · rename_i ts e
      cases h
      simp only [rLen, lenT, e]
    · cases h
  | non => cases h
  | bl b => cases h
  | int b => cases h
  | str b => cases h
  | ty b => cases h
theorem atI_nat {α : Type} {xs : List α} {i : Int} {x : α} (h0 : 0 ≤ i) (h : xs[i.toNat]? = some x) : atI xs i = some x := by
  have hl := (List.getElem?_eq_some_iff.mp h).1
  unfold atI ixN
  rw [if_pos h0, if_pos (by omega)]
  exact h
theorem rIx_items {W : Hw} {t : T} {xs : List T} {i : Int} {x : T} {Q : Kw} (h : itemsT W t = some xs) (h0 : 0 ≤ i) (hx : xs[i.toNat]? = some x) : rIxT t (.int i) W Q = Q x W := by
  have ha := atI_nat h0 hx
  cases t with
  | tup ts => simp only [itemsT, Option.some.injEq] at h; subst h; simp only [rIxT, itemsT, ha]
  | rol ts => simp only [itemsT, Option.some.injEq] at h; subst h; simp only [rIxT, itemsT, ha]
  | ref a => simp only [rIxT, h, ha]
  | non => cases h
  | bl b => cases h
  | int b => cases h
  | str b => cases h
  | ty b => cases h
/-- the last of a list -/
theorem atI_last {α : Type} (xs : List α) (y : α) : atI (xs ++ [y]) (-1) = some y := by
  unfold atI ixN
  rw [if_neg (by decide), if_pos (by simp; omega)]
  have e : ((-1 : Int) + ((xs ++ [y]).length : Int)).toNat = xs.length := by simp; omega
  rw [e]
  simp
theorem itemsT_fr {d l : Addr} {W W' : Hw} {t : T} {xs : List T} (f : Fr d l W W') (h : itemsT W t = some xs) (ha : ∀ a, t = .ref a → a ≠ d ∧ a ≠ l) : itemsT W' t = some xs := by
  cases t with
  | tup ts => exact h
  | rol ts => exact h
  | ref a =>
    simp only [itemsT] at h ⊢
    obtain ⟨h1, h2⟩ := ha a rfl
    split at h
    · rename_i ts e
      cases h
      rw [f.old a _ h1 h2 e]
    · cases h
  | non => cases h
  | bl b => cases h
  | int b => cases h
  | str b => cases h
  | ty b => cases h
/-- g = xs.pop() -/
theorem asg_pop {i : Nat} {g : Tgt} {D : EndsW} {τ τ' : Sw} {W : Hw} {p : Addr} {qs : List T} {x : T} (h1 : τ[i]? = some (some (.ref p))) (h2 : W p = some (.lst (qs ++ [x]))) (h3 : setG g x τ = some τ') (h : D.nx τ' (updw W p (.lst qs))) :
    wAsg (wBM "list" rPopT (wVar i) wNil) g D τ W := by
  simp only [wAsg, wBM, wVar, h1, kindT, h2, wNil, rPopT, pop_get, List.dropLast_concat, true_and, h3]
  exact h
theorem wseq_of {t u : TSw} {D : EndsW} {τ : Sw} {W : Hw} (h : t { D with nx := u D } τ W) : wSeq t u D τ W := h
theorem kindW_lst {W : Hw} {p : Addr} {ps : List T} (h : W p = some (.lst ps)) : kindW W (.ref p) = some (true, ps) := by simp only [kindW, h]
theorem rSl_list {W : Hw} {t : T} {xs : List T} {lo hi : Option Int} {Q : Kw} (h : kindW W t = some (true, xs)) (q : ∀ p, W p = none → Q (.ref p) (updw W p (.lst (cutT xs lo hi)))) : rSlT t lo hi W Q := by
  cases t with
  | tup ts => simp [kindW] at h
  | rol ts => simp only [kindW, Option.some.injEq, Prod.mk.injEq, true_and] at h; subst h; exact q
  | ref a =>
    simp only [kindW] at h
    split at h
    · rename_i ts e
      simp only [Option.some.injEq, Prod.mk.injEq, true_and] at h; subst h
      simp only [rSlT, e]; exact q
    · cases h
  | non => cases h
  | bl b => cases h
  | int b => cases h
  | str b => cases h
  | ty b => cases h
theorem cut_all {xs : List T} {n : Nat} (h : xs.length ≤ n) : cutT xs none (some (n : Int)) = xs := by
  unfold cutT
  rw [HT.sIx_none, HT.sIx_nat, Nat.min_eq_right h]
  simp
theorem kindW_sub {W W' : Hw} {t : T} {k : Bool} {xs : List T} (s : Sub W W') (h : kindW W t = some (k, xs)) : kindW W' t = some (k, xs) := by
  cases t with
  | ref a =>
    simp only [kindW] at h ⊢
    split at h
    · rename_i ts e
      rw [s a _ e]
      exact h
    · cases h
  | tup ts => exact h
  | rol ts => exact h
  | non => cases h
  | bl b => cases h
  | int b => cases h
  | str b => cases h
  | ty b => cases h
/-- a read-only or own list, walked over a slice of it -/
theorem seqI_slice {W : Hw} {τ : Sw} {E : Xw} {i : Nat} {t : T} {xs : List T} {n : Nat} {R : Rw} (h1 : τ[i]? = some (some t)) (h2 : kindW W t = some (true, xs)) (h3 : xs.length ≤ n) (q : ∀ p, W p = none → R xs (fun W' => W' p = some (.lst xs)) (updw W p (.lst xs))) :
    wSeqI (wSl (wVar i) wNoPart (wPart (wK (.int (n : Int))))) τ W R E := by
  simp only [wSeqI, wSl, wVar, h1, wNoPart, wPart, wK]
  refine rSl_list h2 fun p hp => ?_
  rw [cut_all h3]
  simp only [updw_same]
  exact q p hp
theorem Deck.new {d l p : Addr} {W : Hw} {o : O} (h : Deck d l W) (hp : W p = none) : Deck d l (updw W p o) := by
  obtain ⟨cs, m, n, h1, h2, h3⟩ := h
  exact ⟨cs, m, n, by rw [updw_ne (fun z => by rw [z, hp] at h1; cases h1)]; exact h1, by rw [updw_ne (fun z => by rw [z, hp] at h2; cases h2)]; exact h2, h3⟩
theorem Deck.off {d l p : Addr} {W : Hw} (h : Deck d l W) (hp : W p = none) : p ≠ d ∧ p ≠ l := by
  obtain ⟨cs, m, n, h1, h2, h3⟩ := h
  exact ⟨fun z => (by rw [z, h1] at hp; cases hp), fun z => (by rw [z, h2] at hp; cases hp)⟩
theorem Deck.upd {d l p : Addr} {W : Hw} {o : O} (h : Deck d l W) (h1' : p ≠ d) (h2' : p ≠ l) : Deck d l (updw W p o) := by
  obtain ⟨cs, m, n, h1, h2, h3⟩ := h
  exact ⟨cs, m, n, by rw [updw_ne (Ne.symm h1')]; exact h1, by rw [updw_ne (Ne.symm h2')]; exact h2, h3⟩
theorem itemsT_new {W : Hw} {q : Addr} {xs : List T} : itemsT (updw W q (.lst xs)) (.ref q) = some xs := by simp only [itemsT, updw_same]
theorem Fr.out {d l p : Addr} {W W1 : Hw} (f : Fr d l W W1) (h : W1 p = none) (h1 : p ≠ d) (h2 : p ≠ l) : W p = none := by
  cases e : W p with
  | none => rfl
  | some o => rw [f.old p o h1 h2 e] at h; cases h
/-- what comes behind, out of sight -/
theorem seq_gen {t u : TSw} {D : EndsW} {τ : Sw} {W : Hw} (h : ∀ N : Sw → Hw → Prop, N = u D → t { D with nx := N } τ W) : wSeq t u D τ W := h _ rfl
theorem drop_append {i : Nat} {te : TEw} {D : EndsW} {τ : Sw} {W : Hw} {p : Addr} {xs : List T} {t0 : T} (h1 : τ[i]? = some (some (.ref p))) (h2 : W p = some (.lst xs)) (hl : xs.length < sizeLine) (hte : ∀ R E, R t0 W → te τ W R E) (h : D.nx τ (updw W p (.lst (xs ++ [t0])))) :
    wDrop (wBM "list" rAppendT (wVar i) (wCons te wNil)) D τ W := by
  simp only [wDrop, wBM, wVar, h1, kindT, h2, wCons, wNil, true_and]
  refine hte _ _ ?_
  simp only [rAppendT, h2]
  exact ⟨hl, h⟩
theorem add_lists {W : Hw} {p q : Addr} {xs ys : List T} {Q : Kw} (h1 : W p = some (.lst xs)) (h2 : W q = some (.lst ys)) (hl : xs.length + ys.length ≤ sizeLine) (h : ∀ r, W r = none → Q (.ref r) (updw W r (.lst (xs ++ ys)))) : rAddT (.ref p) (.ref q) W Q := by
  simp only [rAddT, h1, h2]
  exact ⟨hl, h⟩
theorem mul_list {W : Hw} {p : Addr} {xs : List T} {k : Int} {Q : Kw} (h1 : W p = some (.lst xs)) (h0 : 0 ≤ k) (hk : k ≤ 100) (hl : xs.length ≤ 100) (h : ∀ r, W r = none → Q (.ref r) (updw W r (.lst (List.replicate k.toNat xs).flatten))) : rMulT (.ref p) (.int k) W Q := by
  simp only [rMulT, h1]
  have e : (2 : Int) ^ 63 = 9223372036854775808 := by decide
  refine ⟨by rw [e]; omega, by rw [e]; omega, ?_, h⟩
  rw [sizeLine_eq]
  have : xs.length * k.toNat ≤ 100 * 100 := Nat.mul_le_mul hl (by omega)
  omega
theorem upd_at {W : Hw} {p q : Addr} {o u : O} (h : W p = some o) (hq : W q = none) : updw W q u p = some o := by
  rw [updw_ne (fun z => by rw [z, hq] at h; cases h)]; exact h
theorem pm10 {A B : T} : pmI [1, 0] [A, B] = [B, A] := rfl
theorem call2 {S : Spw} {i j : Nat} {τ : Sw} {W : Hw} {R : Kw} {E : Xw} {y z : T} (h1 : τ[i]? = some (some y)) (h2 : τ[j]? = some (some z)) (h : S [y, z] W R (fun C th W' => E C th τ W')) : wCall S (wCons (wVar i) (wCons (wVar j) wNil)) τ W R E := by
  simp only [wCall, wCons, wVar, h1, h2, wNil]; exact h
theorem callK2 {S : Spw} {i j : Nat} {τ : Sw} {W : Hw} {R : Kw} {E : Xw} {y z : T} (h1 : τ[i]? = some (some y)) (h2 : τ[j]? = some (some z)) (h : S [z, y] W R (fun C th W' => E C th τ W')) : wCallK S [1, 0] (wCons (wVar i) (wCons (wVar j) wNil)) τ W R E := by
  simp only [wCallK, wCons, wVar, h1, h2, wNil, pm10]; exact h
theorem Fr.lamD {d l P : Addr} {q : Str} {W W1 : Hw} (f : Fr d l W W1) (hD : Deck d l W) (lo : LamOk P q W) : LamOk P q W1 :=
  f.lam lo (fun z => by obtain ⟨cs, m, n, h1, _⟩ := hD; rw [z, lo.at_] at h1; cases h1) (fun z => by obtain ⟨cs, m, n, _, h1, _⟩ := hD; rw [z, lo.at_] at h1; cases h1)
theorem cut_init {xs : List T} {y : T} : cutT (xs ++ [y]) none (some (-1)) = xs := by
  unfold cutT
  rw [HT.sIx_none]
  have e : HT.sIx (xs ++ [y]).length (xs ++ [y]).length (some (-1)) = xs.length := by
    unfold HT.sIx
    dsimp only
    rw [if_pos (by decide), List.length_append, List.length_singleton]
    omega
  rw [e]
  simp
theorem pairsT_map {α : Type} (f g : α → T) : ∀ r : List α, pairsT (r.map f) (r.map g) = r.map fun p => .tup [f p, g p]
  | [] => rfl
  | p :: r => by
    show _ :: pairsT (r.map f) (r.map g) = _
    rw [pairsT_map f g r]
    rfl
theorem rIx_last {W : Hw} {p : Addr} {xs : List T} {y : T} {Q : Kw} (h : W p = some (.lst (xs ++ [y]))) (q : Q y W) : rIxT (.ref p) (.int (-1)) W Q := by
  simp only [rIxT, itemsT, h, atI_last]
  exact q
theorem two62 : (2 : Int) ^ 62 = 4611686018427387904 := by decide
end TL

set_option Elab.async false
set_option linter.all false
set_option maxRecDepth 100000
set_option maxHeartbeats 0
namespace TL.K34
open PySem PySem.Spec PyProof.Rows L2 TL
def top (i : Nat) : Stmt := PySem.Challenge.pw_everytextread_k34_edits_of_texts_and_the.main.body.getD i (.Pass ⟨0, 0, 0, 0⟩)
abbrev s_is_whole : Stmt := top 8
abbrev s_is_whole_between : Stmt := top 9
abbrev s_is_tuple_of : Stmt := top 10
abbrev s_is_sign : Stmt := top 11
abbrev s_is_text : Stmt := top 12
abbrev s_need_text : Stmt := top 14
abbrev s_is_edit : Stmt := top 17
abbrev s_need_edit : Stmt := top 18
abbrev s_text_behind : Stmt := top 19
abbrev s_edited : Stmt := top 20
abbrev s_undo_of : Stmt := top 21
abbrev s__law_deck : Stmt := top 23
abbrev s__law_draw : Stmt := top 24
abbrev s__law_pick : Stmt := top 25
abbrev s__law_same : Stmt := top 26
abbrev s__law_some_text : Stmt := top 27
abbrev s__law_an_edit : Stmt := top 28
abbrev s__law_refused : Stmt := top 29
abbrev s__law_are_refused : Stmt := top 30
abbrev s_law : Stmt := top 31
def d_is_whole : He.DefD := ⟨("is_whole", none), "is_whole", "is_whole", defArgs s_is_whole, defBody s_is_whole, defScope s_is_whole, [], []⟩
def d_is_whole_between : He.DefD := ⟨("is_whole_between", none), "is_whole_between", "is_whole_between", defArgs s_is_whole_between, defBody s_is_whole_between, defScope s_is_whole_between, [], []⟩
def d_is_tuple_of : He.DefD := ⟨("is_tuple_of", none), "is_tuple_of", "is_tuple_of", defArgs s_is_tuple_of, defBody s_is_tuple_of, defScope s_is_tuple_of, [], []⟩
def d_is_sign : He.DefD := ⟨("is_sign", none), "is_sign", "is_sign", defArgs s_is_sign, defBody s_is_sign, defScope s_is_sign, [], []⟩
def d_is_text : He.DefD := ⟨("is_text", none), "is_text", "is_text", defArgs s_is_text, defBody s_is_text, defScope s_is_text, [], []⟩
def d_need_text : He.DefD := ⟨("need_text", none), "need_text", "need_text", defArgs s_need_text, defBody s_need_text, defScope s_need_text, [], []⟩
def d_is_edit : He.DefD := ⟨("is_edit", none), "is_edit", "is_edit", defArgs s_is_edit, defBody s_is_edit, defScope s_is_edit, [], []⟩
def d_need_edit : He.DefD := ⟨("need_edit", none), "need_edit", "need_edit", defArgs s_need_edit, defBody s_need_edit, defScope s_need_edit, [], []⟩
def d_text_behind : He.DefD := ⟨("text_behind", none), "text_behind", "text_behind", defArgs s_text_behind, defBody s_text_behind, defScope s_text_behind, [], []⟩
def d_edited : He.DefD := ⟨("edited", none), "edited", "edited", defArgs s_edited, defBody s_edited, defScope s_edited, [], []⟩
def d_undo_of : He.DefD := ⟨("undo_of", none), "undo_of", "undo_of", defArgs s_undo_of, defBody s_undo_of, defScope s_undo_of, [], []⟩
def d__law_deck : He.DefD := ⟨("_law_deck", none), "_law_deck", "_law_deck", defArgs s__law_deck, defBody s__law_deck, defScope s__law_deck, [], []⟩
def d__law_draw : He.DefD := ⟨("_law_draw", none), "_law_draw", "_law_draw", defArgs s__law_draw, defBody s__law_draw, defScope s__law_draw, [], []⟩
def d__law_pick : He.DefD := ⟨("_law_pick", none), "_law_pick", "_law_pick", defArgs s__law_pick, defBody s__law_pick, defScope s__law_pick, [], []⟩
def d__law_same : He.DefD := ⟨("_law_same", none), "_law_same", "_law_same", defArgs s__law_same, defBody s__law_same, defScope s__law_same, [], []⟩
def d__law_some_text : He.DefD := ⟨("_law_some_text", none), "_law_some_text", "_law_some_text", defArgs s__law_some_text, defBody s__law_some_text, defScope s__law_some_text, [], []⟩
def d__law_an_edit : He.DefD := ⟨("_law_an_edit", none), "_law_an_edit", "_law_an_edit", defArgs s__law_an_edit, defBody s__law_an_edit, defScope s__law_an_edit, [], []⟩
def d__law_refused : He.DefD := ⟨("_law_refused", none), "_law_refused", "_law_refused", defArgs s__law_refused, defBody s__law_refused, defScope s__law_refused, [], []⟩
def d__law_are_refused : He.DefD := ⟨("_law_are_refused", none), "_law_are_refused", "_law_are_refused", defArgs s__law_are_refused, defBody s__law_are_refused, defScope s__law_are_refused, [], []⟩
def d_law : He.DefD := ⟨("law", none), "law", "law", defArgs s_law, defBody s_law, defScope s_law, [], []⟩
abbrev i_BadText : Stmt := (match top 2 with | .ClassDef (body := b) .. => b.getD 0 (.Pass ⟨0, 0, 0, 0⟩) | _ => .Pass ⟨0, 0, 0, 0⟩)
def di_BadText : He.DefD := ⟨("BadText", some "__init__"), "__init__", "BadText.__init__", defArgs i_BadText, defBody i_BadText, defScope i_BadText, [], []⟩
abbrev i_BadEdit : Stmt := (match top 3 with | .ClassDef (body := b) .. => b.getD 0 (.Pass ⟨0, 0, 0, 0⟩) | _ => .Pass ⟨0, 0, 0, 0⟩)
def di_BadEdit : He.DefD := ⟨("BadEdit", some "__init__"), "__init__", "BadEdit.__init__", defArgs i_BadEdit, defBody i_BadEdit, defScope i_BadEdit, [], []⟩
def fn : List He.DefD := [d_is_whole, d_is_whole_between, d_is_tuple_of, d_is_sign, d_is_text, d_need_text, d_is_edit, d_need_edit, d_text_behind, d_edited, d_undo_of, d__law_deck, d__law_draw, d__law_pick, d__law_same, d__law_some_text, d__law_an_edit, d__law_refused, d__law_are_refused, d_law, di_BadText, di_BadEdit]
def fa : List He.Fa := [.glo "is_whole", .glo "is_whole_between", .glo "is_tuple_of", .glo "is_sign", .glo "is_text", .glo "need_text", .glo "is_edit", .glo "need_edit", .glo "text_behind", .glo "edited", .glo "undo_of", .glo "_law_deck", .glo "_law_draw", .glo "_law_pick", .glo "_law_same", .glo "_law_some_text", .glo "_law_an_edit", .glo "_law_refused", .glo "_law_are_refused", .glo "law", .glo "ReadError", .glo "BadText", .glo "BadEdit", .int "MOST_WHOLE" 100000000000000000000, .int "LEFT_OUT" 37, .str "FEED" "\n", .int "PARTS" 3, .free "range", .free "isinstance", .free "int", .free "tuple", .free "str", .free "all", .free "len", .free "zip", .free "bool", .free "ord", .free "list", .free "min", .free "max"]
def exs (K : PySem.W.Frag) : List Bool := [PySem.TLX.errB K (He.ga K "BadText") (He.ma K (He.ga K "BadText") "__init__") [He.ga K "ReadError"],
  PySem.TLX.errB K (He.ga K "BadEdit") (He.ma K (He.ga K "BadEdit") "__init__") [He.ga K "ReadError"],
  decide (PySem.W.exmOne K (.ref (He.ga K "BadText")) (.ref (He.ga K "BadText")) = some (decide (He.ga K "BadText" = He.ga K "BadText"))),
  decide (PySem.W.exmOne K (.ref (He.ga K "BadText")) (.ref (He.ga K "BadEdit")) = some (decide (He.ga K "BadText" = He.ga K "BadEdit"))),
  decide (PySem.W.exmOne K (.ref (He.ga K "BadEdit")) (.ref (He.ga K "BadText")) = some (decide (He.ga K "BadEdit" = He.ga K "BadText"))),
  decide (PySem.W.exmOne K (.ref (He.ga K "BadEdit")) (.ref (He.ga K "BadEdit")) = some (decide (He.ga K "BadEdit" = He.ga K "BadEdit"))),
  decide (PySem.W.kitOne K (.ref (He.ga K "BadText")) (.ref (He.ga K "ReadError")) = some true),
  decide (PySem.W.kitOne K (.ref (He.ga K "BadEdit")) (.ref (He.ga K "ReadError")) = some true),
  decide (He.ga K "BadEdit" ≠ He.ga K "BadText")]
def ex (K : PySem.W.Frag) : Bool := (exs K).all id
def tf : List He.Defn := [("_law_are_refused", none)]
abbrev R : PySem.W.OpenRow := PySem.W.OpenLaw.row PySem.Challenge.rw_everytextread_k34_edits_of_texts_and_the
abbrev hk : PySem.W.Hook := He.hookX 5 fa fn [] tf ex
def ob (s : PySem.W.SharedT) : He.AlX := He.obsX 5 fa fn [] tf ex (HandSHeadRun.getT s)
theorem ob_eq (s : PySem.W.SharedT) : ob s = hk.obs s.abs := He.obsX_eq (HandSHeadRun.getT_eq s)
def names : List PySem.Str := ["ReadError", "BadText", "BadEdit", "MOST_WHOLE", "LEFT_OUT", "FEED", "is_whole", "is_whole_between", "is_tuple_of", "is_sign", "is_text", "need_text", "PARTS", "is_edit", "need_edit", "text_behind", "edited", "undo_of", "_law_deck", "_law_draw", "_law_pick", "_law_same", "_law_some_text", "_law_an_edit", "_law_refused", "_law_are_refused"]
theorem run (w : World) : HandSHeadRun.RunEq R (PySem.W.view R.prog [31]) hk ob 2000 names w := by
  intro os
  kernel_rfl
end TL.K34

set_option Elab.async false
set_option linter.all false
set_option maxRecDepth 100000
set_option maxHeartbeats 4000000
namespace TL.K34
open PySem PySem.Spec PyProof.Rows L2 TL
structure Fs (K : PySem.W.Frag) (mg : Str → Option Value) : Prop where
  g_is_whole : mg "is_whole" = some (.ref (He.ga K "is_whole"))
  g_is_whole_between : mg "is_whole_between" = some (.ref (He.ga K "is_whole_between"))
  g_is_tuple_of : mg "is_tuple_of" = some (.ref (He.ga K "is_tuple_of"))
  g_is_sign : mg "is_sign" = some (.ref (He.ga K "is_sign"))
  g_is_text : mg "is_text" = some (.ref (He.ga K "is_text"))
  g_need_text : mg "need_text" = some (.ref (He.ga K "need_text"))
  g_is_edit : mg "is_edit" = some (.ref (He.ga K "is_edit"))
  g_need_edit : mg "need_edit" = some (.ref (He.ga K "need_edit"))
  g_text_behind : mg "text_behind" = some (.ref (He.ga K "text_behind"))
  g_edited : mg "edited" = some (.ref (He.ga K "edited"))
  g_undo_of : mg "undo_of" = some (.ref (He.ga K "undo_of"))
  g__law_deck : mg "_law_deck" = some (.ref (He.ga K "_law_deck"))
  g__law_draw : mg "_law_draw" = some (.ref (He.ga K "_law_draw"))
  g__law_pick : mg "_law_pick" = some (.ref (He.ga K "_law_pick"))
  g__law_same : mg "_law_same" = some (.ref (He.ga K "_law_same"))
  g__law_some_text : mg "_law_some_text" = some (.ref (He.ga K "_law_some_text"))
  g__law_an_edit : mg "_law_an_edit" = some (.ref (He.ga K "_law_an_edit"))
  g__law_refused : mg "_law_refused" = some (.ref (He.ga K "_law_refused"))
  g__law_are_refused : mg "_law_are_refused" = some (.ref (He.ga K "_law_are_refused"))
  g_law : mg "law" = some (.ref (He.ga K "law"))
  g_ReadError : mg "ReadError" = some (.ref (He.ga K "ReadError"))
  g_BadText : mg "BadText" = some (.ref (He.ga K "BadText"))
  g_BadEdit : mg "BadEdit" = some (.ref (He.ga K "BadEdit"))
  c_MOST_WHOLE : ∃ t, mg "MOST_WHOLE" = some (.int 100000000000000000000 t)
  c_LEFT_OUT : ∃ t, mg "LEFT_OUT" = some (.int 37 t)
  c_FEED : ∃ t, mg "FEED" = some (.str "\n" t)
  c_PARTS : ∃ t, mg "PARTS" = some (.int 3 t)
  n_range : mg "range" = none
  n_isinstance : mg "isinstance" = none
  n_int : mg "int" = none
  n_tuple : mg "tuple" = none
  n_str : mg "str" = none
  n_all : mg "all" = none
  n_len : mg "len" = none
  n_zip : mg "zip" = none
  n_bool : mg "bool" = none
  n_ord : mg "ord" = none
  n_list : mg "list" = none
  n_min : mg "min" = none
  n_max : mg "max" = none
  f_is_whole : ∃ fd, Fun K "is_whole" "is_whole" s_is_whole (He.ga K "is_whole") fd
  f_is_whole_between : ∃ fd, Fun K "is_whole_between" "is_whole_between" s_is_whole_between (He.ga K "is_whole_between") fd
  f_is_tuple_of : ∃ fd, Fun K "is_tuple_of" "is_tuple_of" s_is_tuple_of (He.ga K "is_tuple_of") fd
  f_is_sign : ∃ fd, Fun K "is_sign" "is_sign" s_is_sign (He.ga K "is_sign") fd
  f_is_text : ∃ fd, Fun K "is_text" "is_text" s_is_text (He.ga K "is_text") fd
  f_need_text : ∃ fd, Fun K "need_text" "need_text" s_need_text (He.ga K "need_text") fd
  f_is_edit : ∃ fd, Fun K "is_edit" "is_edit" s_is_edit (He.ga K "is_edit") fd
  f_need_edit : ∃ fd, Fun K "need_edit" "need_edit" s_need_edit (He.ga K "need_edit") fd
  f_text_behind : ∃ fd, Fun K "text_behind" "text_behind" s_text_behind (He.ga K "text_behind") fd
  f_edited : ∃ fd, Fun K "edited" "edited" s_edited (He.ga K "edited") fd
  f_undo_of : ∃ fd, Fun K "undo_of" "undo_of" s_undo_of (He.ga K "undo_of") fd
  f__law_deck : ∃ fd, Fun K "_law_deck" "_law_deck" s__law_deck (He.ga K "_law_deck") fd
  f__law_draw : ∃ fd, Fun K "_law_draw" "_law_draw" s__law_draw (He.ga K "_law_draw") fd
  f__law_pick : ∃ fd, Fun K "_law_pick" "_law_pick" s__law_pick (He.ga K "_law_pick") fd
  f__law_same : ∃ fd, Fun K "_law_same" "_law_same" s__law_same (He.ga K "_law_same") fd
  f__law_some_text : ∃ fd, Fun K "_law_some_text" "_law_some_text" s__law_some_text (He.ga K "_law_some_text") fd
  f__law_an_edit : ∃ fd, Fun K "_law_an_edit" "_law_an_edit" s__law_an_edit (He.ga K "_law_an_edit") fd
  f__law_refused : ∃ fd, Fun K "_law_refused" "_law_refused" s__law_refused (He.ga K "_law_refused") fd
  f__law_are_refused : ∃ fd, Fun K "_law_are_refused" "_law_are_refused" s__law_are_refused (He.ga K "_law_are_refused") fd
  f_law : ∃ fd, Fun K "law" "law" s_law (He.ga K "law") fd
  e_BadText : PySem.TLX.ErrC K (He.ga K "BadText") (He.ma K (He.ga K "BadText") "__init__")
  e_BadEdit : PySem.TLX.ErrC K (He.ga K "BadEdit") (He.ma K (He.ga K "BadEdit") "__init__")
  x_2 : PySem.W.exmOne K (.ref (He.ga K "BadText")) (.ref (He.ga K "BadText")) = some (decide (He.ga K "BadText" = He.ga K "BadText"))
  x_3 : PySem.W.exmOne K (.ref (He.ga K "BadText")) (.ref (He.ga K "BadEdit")) = some (decide (He.ga K "BadText" = He.ga K "BadEdit"))
  x_4 : PySem.W.exmOne K (.ref (He.ga K "BadEdit")) (.ref (He.ga K "BadText")) = some (decide (He.ga K "BadEdit" = He.ga K "BadText"))
  x_5 : PySem.W.exmOne K (.ref (He.ga K "BadEdit")) (.ref (He.ga K "BadEdit")) = some (decide (He.ga K "BadEdit" = He.ga K "BadEdit"))
  x_6 : PySem.W.kitOne K (.ref (He.ga K "BadText")) (.ref (He.ga K "ReadError")) = some true
  x_7 : PySem.W.kitOne K (.ref (He.ga K "BadEdit")) (.ref (He.ga K "ReadError")) = some true
  x_8 : He.ga K "BadEdit" ≠ He.ga K "BadText"
theorem fs_of {w : World} {h : Heap} {K : PySem.W.Frag} {mg : Str → Option Value} (X : K.In h) (G : h.Ns mainGlobals mg) (c : He.SaysX fa fn [] tf ex w h K) : Fs K mg :=
  ⟨He.glo_ok X G (sx_fact c (f := .glo "is_whole") (List.mem_of_getElem? (i := 0) rfl)),
   He.glo_ok X G (sx_fact c (f := .glo "is_whole_between") (List.mem_of_getElem? (i := 1) rfl)),
   He.glo_ok X G (sx_fact c (f := .glo "is_tuple_of") (List.mem_of_getElem? (i := 2) rfl)),
   He.glo_ok X G (sx_fact c (f := .glo "is_sign") (List.mem_of_getElem? (i := 3) rfl)),
   He.glo_ok X G (sx_fact c (f := .glo "is_text") (List.mem_of_getElem? (i := 4) rfl)),
   He.glo_ok X G (sx_fact c (f := .glo "need_text") (List.mem_of_getElem? (i := 5) rfl)),
   He.glo_ok X G (sx_fact c (f := .glo "is_edit") (List.mem_of_getElem? (i := 6) rfl)),
   He.glo_ok X G (sx_fact c (f := .glo "need_edit") (List.mem_of_getElem? (i := 7) rfl)),
   He.glo_ok X G (sx_fact c (f := .glo "text_behind") (List.mem_of_getElem? (i := 8) rfl)),
   He.glo_ok X G (sx_fact c (f := .glo "edited") (List.mem_of_getElem? (i := 9) rfl)),
   He.glo_ok X G (sx_fact c (f := .glo "undo_of") (List.mem_of_getElem? (i := 10) rfl)),
   He.glo_ok X G (sx_fact c (f := .glo "_law_deck") (List.mem_of_getElem? (i := 11) rfl)),
   He.glo_ok X G (sx_fact c (f := .glo "_law_draw") (List.mem_of_getElem? (i := 12) rfl)),
   He.glo_ok X G (sx_fact c (f := .glo "_law_pick") (List.mem_of_getElem? (i := 13) rfl)),
   He.glo_ok X G (sx_fact c (f := .glo "_law_same") (List.mem_of_getElem? (i := 14) rfl)),
   He.glo_ok X G (sx_fact c (f := .glo "_law_some_text") (List.mem_of_getElem? (i := 15) rfl)),
   He.glo_ok X G (sx_fact c (f := .glo "_law_an_edit") (List.mem_of_getElem? (i := 16) rfl)),
   He.glo_ok X G (sx_fact c (f := .glo "_law_refused") (List.mem_of_getElem? (i := 17) rfl)),
   He.glo_ok X G (sx_fact c (f := .glo "_law_are_refused") (List.mem_of_getElem? (i := 18) rfl)),
   He.glo_ok X G (sx_fact c (f := .glo "law") (List.mem_of_getElem? (i := 19) rfl)),
   He.glo_ok X G (sx_fact c (f := .glo "ReadError") (List.mem_of_getElem? (i := 20) rfl)),
   He.glo_ok X G (sx_fact c (f := .glo "BadText") (List.mem_of_getElem? (i := 21) rfl)),
   He.glo_ok X G (sx_fact c (f := .glo "BadEdit") (List.mem_of_getElem? (i := 22) rfl)),
   He.int_ok X G (sx_fact c (f := .int "MOST_WHOLE" 100000000000000000000) (List.mem_of_getElem? (i := 23) rfl)),
   He.int_ok X G (sx_fact c (f := .int "LEFT_OUT" 37) (List.mem_of_getElem? (i := 24) rfl)),
   He.str_ok X G (sx_fact c (f := .str "FEED" "\n") (List.mem_of_getElem? (i := 25) rfl)),
   He.int_ok X G (sx_fact c (f := .int "PARTS" 3) (List.mem_of_getElem? (i := 26) rfl)),
   He.free_ok X G (sx_fact c (f := .free "range") (List.mem_of_getElem? (i := 27) rfl)),
   He.free_ok X G (sx_fact c (f := .free "isinstance") (List.mem_of_getElem? (i := 28) rfl)),
   He.free_ok X G (sx_fact c (f := .free "int") (List.mem_of_getElem? (i := 29) rfl)),
   He.free_ok X G (sx_fact c (f := .free "tuple") (List.mem_of_getElem? (i := 30) rfl)),
   He.free_ok X G (sx_fact c (f := .free "str") (List.mem_of_getElem? (i := 31) rfl)),
   He.free_ok X G (sx_fact c (f := .free "all") (List.mem_of_getElem? (i := 32) rfl)),
   He.free_ok X G (sx_fact c (f := .free "len") (List.mem_of_getElem? (i := 33) rfl)),
   He.free_ok X G (sx_fact c (f := .free "zip") (List.mem_of_getElem? (i := 34) rfl)),
   He.free_ok X G (sx_fact c (f := .free "bool") (List.mem_of_getElem? (i := 35) rfl)),
   He.free_ok X G (sx_fact c (f := .free "ord") (List.mem_of_getElem? (i := 36) rfl)),
   He.free_ok X G (sx_fact c (f := .free "list") (List.mem_of_getElem? (i := 37) rfl)),
   He.free_ok X G (sx_fact c (f := .free "min") (List.mem_of_getElem? (i := 38) rfl)),
   He.free_ok X G (sx_fact c (f := .free "max") (List.mem_of_getElem? (i := 39) rfl)),
   sx_fun c (x := "is_whole") (st := s_is_whole) (List.mem_of_getElem? (i := 0) rfl),
   sx_fun c (x := "is_whole_between") (st := s_is_whole_between) (List.mem_of_getElem? (i := 1) rfl),
   sx_fun c (x := "is_tuple_of") (st := s_is_tuple_of) (List.mem_of_getElem? (i := 2) rfl),
   sx_fun c (x := "is_sign") (st := s_is_sign) (List.mem_of_getElem? (i := 3) rfl),
   sx_fun c (x := "is_text") (st := s_is_text) (List.mem_of_getElem? (i := 4) rfl),
   sx_fun c (x := "need_text") (st := s_need_text) (List.mem_of_getElem? (i := 5) rfl),
   sx_fun c (x := "is_edit") (st := s_is_edit) (List.mem_of_getElem? (i := 6) rfl),
   sx_fun c (x := "need_edit") (st := s_need_edit) (List.mem_of_getElem? (i := 7) rfl),
   sx_fun c (x := "text_behind") (st := s_text_behind) (List.mem_of_getElem? (i := 8) rfl),
   sx_fun c (x := "edited") (st := s_edited) (List.mem_of_getElem? (i := 9) rfl),
   sx_fun c (x := "undo_of") (st := s_undo_of) (List.mem_of_getElem? (i := 10) rfl),
   sx_fun c (x := "_law_deck") (st := s__law_deck) (List.mem_of_getElem? (i := 11) rfl),
   sx_fun c (x := "_law_draw") (st := s__law_draw) (List.mem_of_getElem? (i := 12) rfl),
   sx_fun c (x := "_law_pick") (st := s__law_pick) (List.mem_of_getElem? (i := 13) rfl),
   sx_fun c (x := "_law_same") (st := s__law_same) (List.mem_of_getElem? (i := 14) rfl),
   sx_fun c (x := "_law_some_text") (st := s__law_some_text) (List.mem_of_getElem? (i := 15) rfl),
   sx_fun c (x := "_law_an_edit") (st := s__law_an_edit) (List.mem_of_getElem? (i := 16) rfl),
   sx_fun c (x := "_law_refused") (st := s__law_refused) (List.mem_of_getElem? (i := 17) rfl),
   sx_fun c (x := "_law_are_refused") (st := s__law_are_refused) (List.mem_of_getElem? (i := 18) rfl),
   sx_fun c (x := "law") (st := s_law) (List.mem_of_getElem? (i := 19) rfl),
   (by obtain ⟨fd, Fd⟩ := c.t.d.defs (d := di_BadText) (List.mem_of_getElem? (i := 20) rfl); exact PySem.TLX.errB_ok (List.all_eq_true.mp c.more _ (List.mem_of_getElem? (i := 0) rfl)) Fd),
   (by obtain ⟨fd, Fd⟩ := c.t.d.defs (d := di_BadEdit) (List.mem_of_getElem? (i := 21) rfl); exact PySem.TLX.errB_ok (List.all_eq_true.mp c.more _ (List.mem_of_getElem? (i := 1) rfl)) Fd),
   of_decide_eq_true (List.all_eq_true.mp c.more _ (List.mem_of_getElem? (i := 2) rfl)),
   of_decide_eq_true (List.all_eq_true.mp c.more _ (List.mem_of_getElem? (i := 3) rfl)),
   of_decide_eq_true (List.all_eq_true.mp c.more _ (List.mem_of_getElem? (i := 4) rfl)),
   of_decide_eq_true (List.all_eq_true.mp c.more _ (List.mem_of_getElem? (i := 5) rfl)),
   of_decide_eq_true (List.all_eq_true.mp c.more _ (List.mem_of_getElem? (i := 6) rfl)),
   of_decide_eq_true (List.all_eq_true.mp c.more _ (List.mem_of_getElem? (i := 7) rfl)),
   of_decide_eq_true (List.all_eq_true.mp c.more _ (List.mem_of_getElem? (i := 8) rfl))⟩
theorem kb_undo_of_1_0 (kV doc pm : Value) (an : Option Addr) (cdv ct : Value) (ws : List Value) (h : (pmI [1, 0] ws).length = 2) : bindArgs (PySem.W.fnOf "undo_of" "undo_of" (defArgs s_undo_of) (defBody s_undo_of) (defScope s_undo_of) .none kV doc pm an cdv ct) ⟨[], (["edit", "text"] : List Str).zip ws⟩ = pure ((["text", "edit"] : List Str).zip (pmI [1, 0] ws)) := by
  have hl := pmI_inv h rfl 1 (by decide)
  match ws, hl with
  | [], hl => exact absurd hl (by simp)
  | [_], hl => exact absurd hl (by simp)
  | _ :: _ :: _, _ => rfl
theorem kb_edited_1_0 (kV doc pm : Value) (an : Option Addr) (cdv ct : Value) (ws : List Value) (h : (pmI [1, 0] ws).length = 2) : bindArgs (PySem.W.fnOf "edited" "edited" (defArgs s_edited) (defBody s_edited) (defScope s_edited) .none kV doc pm an cdv ct) ⟨[], (["edit", "text"] : List Str).zip ws⟩ = pure ((["text", "edit"] : List Str).zip (pmI [1, 0] ws)) := by
  have hl := pmI_inv h rfl 1 (by decide)
  match ws, hl with
  | [], hl => exact absurd hl (by simp)
  | [_], hl => exact absurd hl (by simp)
  | _ :: _ :: _, _ => rfl
section
variable {P : Program} {w : World} {K : PySem.W.Frag} {mg : Str → Option Value} {base : Heap}

/-- a whole number of the document -/
def wholeB : T → Bool
  | .int i => decide (-100000000000000000000 < i) && decide (i < 100000000000000000000)
  | _ => false
def btwB (t : T) (a b : Int) : Bool := match t with
  | .int i => wholeB (.int i) && (decide (a ≤ i) && decide (i ≤ b))
  | _ => false
def tupB (t : T) (n : Int) : Bool := match t with
  | .tup xs => decide ((xs.length : Int) = n)
  | _ => false
def okC (c : Nat) : Bool := decide (c = 10) || (decide (32 ≤ c) && (decide (c ≤ 126) && decide (c ≠ 37)))
def signB (c : Nat) : Bool := decide (32 ≤ c) && (decide (c ≤ 126) && decide (c ≠ 37))
def textB : T → Bool
  | .str x => x.cps.toList.all okC
  | _ => false
def sp_is_whole : Spw := fun ws W Q _ => match ws with
  | [t] => Ty W t ∧ Q (.bl (wholeB t)) W
  | _ => False
def sp_is_whole_between : Spw := fun ws W Q _ => match ws with
  | [t, .int a, .int b] => Ty W t ∧ Q (.bl (btwB t a b)) W
  | _ => False
def sp_is_tuple_of : Spw := fun ws W Q _ => match ws with
  | [t, .int n] => Ty W t ∧ Q (.bl (tupB t n)) W
  | _ => False
def sp_is_sign : Spw := fun ws W Q _ => match ws with
  | [.str x] => ∃ c, x = ⟨#[c]⟩ ∧ Q (.bl (signB c)) W
  | _ => False
/-- of a known type, and not too long a text -/
def Shp (W : Hw) (t : T) : Prop := Ty W t ∧ ∀ x, t = .str x → x.length ≤ 100000
def ShE (W : Hw) (t : T) : Prop := Ty W t ∧ ∀ xs, t = .tup xs → ∀ y ∈ xs, Shp W y
def editB (x : Str) (t : T) : Bool := match t with
  | .tup [.int a, b, c] => btwB (.int a) 0 x.length && (btwB b a x.length && textB c)
  | _ => false
def behindS (x : Str) (a b : Int) (n : Str) : Str := cutS x none (some a) ++ n ++ cutS x (some b) none
def sp_is_text : Spw := fun ws W Q _ => match ws with
  | [t] => Shp W t ∧ Q (.bl (textB t)) W
  | _ => False
def sp_need_text (K : PySem.W.Frag) : Spw := fun ws W Q E => match ws with
  | [t] => Shp W t ∧ if textB t = true then Q .non W else E (He.ga K "BadText") t W
  | _ => False
def sp_is_edit : Spw := fun ws W Q _ => match ws with
  | [.str x, t] => x.length ≤ 100000 ∧ ShE W t ∧ Q (.bl (editB x t)) W
  | _ => False
def sp_need_edit (K : PySem.W.Frag) : Spw := fun ws W Q E => match ws with
  | [.str x, t] => x.length ≤ 100000 ∧ ShE W t ∧ if editB x t = true then Q .non W else E (He.ga K "BadEdit") t W
  | _ => False
def sp_text_behind : Spw := fun ws W Q _ => match ws with
  | [.str x, .tup [.int a, .int b, .str n]] => (0 ≤ a ∧ a ≤ b ∧ b ≤ x.length) ∧ x.length ≤ 100000 ∧ n.length ≤ 100000 ∧ Q (.str (behindS x a b n)) W
  | _ => False
def spE (K : PySem.W.Frag) (res : Str → Int → Int → Str → T) : Spw := fun ws W Q E => match ws with
  | [.str x, e] => x.length ≤ 100000 ∧ ShE W e ∧ (if textB (.str x) = true then (if editB x e = true then (match e with
    | .tup [.int a, .int b, .str n] => Q (res x a b n) W
    | _ => False) else E (He.ga K "BadEdit") e W) else E (He.ga K "BadText") (.str x) W)
  | [t, _] => Ty W t ∧ (isStrT t = false) ∧ E (He.ga K "BadText") t W
  | _ => False
abbrev sp_edited (K : PySem.W.Frag) : Spw := spE K fun x a b n => .str (behindS x a b n)
abbrev sp_undo_of (K : PySem.W.Frag) : Spw := spE K fun x a b n => .tup [.int a, .int (a + n.length), .str (cutS x (some a) (some b))]
theorem behind_len {x : Str} {a b : Int} (h0 : 0 ≤ a) (h1 : a ≤ b) (h2 : b ≤ x.length) : (cutS x none (some a)).length = a.toNat ∧ (cutS x (some b) none).length = x.length - b.toNat := by
  obtain ⟨l, rfl⟩ := S_of x
  rw [S_len] at h2
  rw [cut_lo h0 (by omega), cut_hi (by omega) h2]
  simp only [S_len, List.length_take, List.length_drop]
  exact ⟨by omega, trivial⟩
theorem feed_eq (c : Nat) : decide ((⟨#[c]⟩ : Str) = ("\n" : Str)) = decide (c = 10) := by
  have e : ("\n" : Str) = ⟨#[10]⟩ := by decide +kernel
  rw [e]
  apply decide_eq_decide.mpr
  constructor
  · intro h; injection h with h; simpa using h
  · intro h; rw [h]
theorem okC_eq (c : Nat) : okC c = (decide (c = 10) || signB c) := rfl
theorem str_len_cat (x y : Str) : (x ++ y).length = x.length + y.length := by
  obtain ⟨a, rfl⟩ := S_of x
  obtain ⟨b, rfl⟩ := S_of y
  rw [S_cat, S_len, S_len, S_len, List.length_append]
theorem editB_facts {x n : Str} {a b : Int} (h : editB x (.tup [.int a, .int b, .str n]) = true) : (0 ≤ a ∧ a ≤ b ∧ b ≤ x.length) ∧ textB (.str n) = true := by
  simp only [editB, btwB, Bool.and_eq_true, decide_eq_true_eq] at h
  obtain ⟨⟨_, h1, h2⟩, ⟨_, h3, h4⟩, h5⟩ := h
  exact ⟨⟨h1, h3, h4⟩, h5⟩
theorem lt_one {a b : Nat} : decide (([a] : List Nat) < [b]) = decide (a < b) := by
  apply decide_eq_decide.mpr
  constructor
  · intro h
    cases h with
    | rel h => exact h
    | cons h => cases h
  · intro h; exact .rel h

def sp__law_draw : Spw := fun ws W Q _ => match ws with
  | [.ref d, .int k] => ∃ l, Deck d l W ∧ (0 < k ∧ k < 1073741824) ∧ ∀ r W', 0 ≤ r → r < k → Fr d l W W' → Deck d l W' → Q (.int r) W'
  | _ => False

def sp__law_pick : Spw := fun ws W Q _ => match ws with
  | [.ref d, t] => ∃ l xs, Deck d l W ∧ itemsT W t = some xs ∧ (∀ a, t = .ref a → a ≠ d ∧ a ≠ l) ∧ (0 < xs.length ∧ xs.length < 1073741824) ∧ ∀ x ∈ xs, ∀ W', Fr d l W W' → Deck d l W' → Q x W'
  | _ => False
def sp__law_deck : Spw := fun ws W Q _ => match ws with
  | [t, .int _] => ∃ ns : List Int, kindW W t = some (true, ns.map T.int) ∧ ns.length ≤ 63 ∧ ∀ d l W', W d = none → W l = none → (∀ a o, W a = some o → W' a = some o) → (∀ a o, W' a = some o → noTab o = false → W a = some o) → Deck d l W' → Q (.ref d) W'
  | _ => False
def sp__law_same : Spw := fun ws W Q _ => match ws with
  | [t, u] => ∃ n, Sm W n t u ∧ n ≤ 100000 ∧ Q (.bl true) W
  | _ => False

theorem textB_cat (x y : Str) : textB (.str (x ++ y)) = (textB (.str x) && textB (.str y)) := by
  obtain ⟨a, rfl⟩ := S_of x
  obtain ⟨b, rfl⟩ := S_of y
  rw [S_cat]
  simp [textB, S]
def okP (y : Str) : Prop := textB (.str y) = true ∧ y.length ≤ 2
theorem join_okP : ∀ ys : List Str, (∀ y ∈ ys, okP y) → textB (.str (Str.join ("" : Str) ys)) = true ∧ (Str.join ("" : Str) ys).length ≤ 2 * ys.length
  | [], _ => ⟨by decide +kernel, by decide +kernel⟩
  | [x], h => by
    have := h x (by simp)
    exact ⟨this.1, by show x.length ≤ _; have := this.2; simpa using this⟩
  | x :: y :: r, h => by
    obtain ⟨h1, h2⟩ := h x (by simp)
    obtain ⟨h3, h4⟩ := join_okP (y :: r) (fun z hz => h z (List.mem_cons_of_mem _ hz))
    have e : ("" : Str).length = 0 := by decide +kernel
    have e2 : textB (.str ("" : Str)) = true := by decide +kernel
    show textB (.str (x ++ ("" : Str) ++ Str.join ("" : Str) (y :: r))) = true ∧ (x ++ ("" : Str) ++ Str.join ("" : Str) (y :: r)).length ≤ _
    rw [textB_cat, textB_cat, str_len_cat, str_len_cat, h1, h3, e2, e]
    exact ⟨rfl, by simp only [List.length_cons] at h4 ⊢; omega⟩
theorem sum_le : ∀ ys : List Str, (∀ y ∈ ys, okP y) → (ys.map (·.length)).sum ≤ 2 * ys.length
  | [], _ => by simp
  | y :: r, h => by
    have h1 := (h y (by simp)).2
    have h2 := sum_le r (fun z hz => h z (List.mem_cons_of_mem _ hz))
    simp only [List.map_cons, List.sum_cons, List.length_cons]
    omega
def sp__law_some_text : Spw := fun ws W Q _ => match ws with
  | [.ref d, .int most] => ∃ l, Deck d l W ∧ (0 < most ∧ most ≤ 1000) ∧ ∀ x W', textB (.str x) = true → (x.length : Int) ≤ 2 * most → Fr d l W W' → Deck d l W' → Q (.str x) W'
  | _ => False
theorem pieces_ok : ∀ x ∈ [T.str "a", T.str "b", T.str " ", T.str "(", T.str ")", T.str "\n", T.str "\"", T.str "7", T.str "~", T.str "ab", T.str "  "], ∃ y, x = .str y ∧ okP y := by
  intro x hx
  simp only [List.mem_cons, List.not_mem_nil, or_false] at hx
  have k : ∀ y : Str, (textB (.str y) && decide (y.length ≤ 2)) = true → okP y := fun y h => by
    simp only [Bool.and_eq_true, decide_eq_true_eq] at h
    exact h
  rcases hx with h | h | h | h | h | h | h | h | h | h | h <;> exact ⟨_, h, k _ (by decide +kernel)⟩

def sp__law_an_edit : Spw := fun ws W Q _ => match ws with
  | [.ref d, .str x] => ∃ l, Deck d l W ∧ textB (.str x) = true ∧ x.length ≤ 1000 ∧ ∀ (a b : Int) (n : Str) W', (0 ≤ a ∧ a ≤ b ∧ b ≤ x.length) → textB (.str n) = true → (n.length : Int) ≤ (b - a) + 16 → Fr d l W W' → Deck d l W' → Q (.tup [.int a, .int b, .str n]) W'
  | _ => False
theorem cut_mid_ok {x : Str} {a b : Int} (h0 : 0 ≤ a) (h1 : a ≤ b) (h2 : b ≤ x.length) (ht : textB (.str x) = true) : textB (.str (cutS x (some a) (some b))) = true ∧ ((cutS x (some a) (some b)).length : Int) = b - a := by
  obtain ⟨l, rfl⟩ := S_of x
  rw [S_len] at h2
  rw [cut_mid h0 h1 h2, S_len]
  refine ⟨?_, ?_⟩
  · have h : l.all okC = true := by simpa [textB, S] using ht
    show (S ((l.drop a.toNat).take (b.toNat - a.toNat))).cps.toList.all okC = true
    rw [List.all_eq_true] at h ⊢
    intro c hc
    exact h c (List.mem_of_mem_drop (List.mem_of_mem_take (by simpa [S] using hc)))
  · simp only [List.length_take, List.length_drop]
    omega
theorem cut_lo_ok {x : Str} {a : Int} (h0 : 0 ≤ a) (h2 : a ≤ x.length) (ht : textB (.str x) = true) : textB (.str (cutS x none (some a))) = true := by
  obtain ⟨l, rfl⟩ := S_of x
  rw [S_len] at h2
  rw [cut_lo h0 h2]
  have h : l.all okC = true := by simpa [textB, S] using ht
  show (S (l.take a.toNat)).cps.toList.all okC = true
  rw [List.all_eq_true] at h ⊢
  intro c hc
  exact h c (List.mem_of_mem_take (by simpa [S] using hc))
theorem cut_hi_ok {x : Str} {a : Int} (h0 : 0 ≤ a) (h2 : a ≤ x.length) (ht : textB (.str x) = true) : textB (.str (cutS x (some a) none)) = true := by
  obtain ⟨l, rfl⟩ := S_of x
  rw [S_len] at h2
  rw [cut_hi h0 h2]
  have h : l.all okC = true := by simpa [textB, S] using ht
  show (S (l.drop a.toNat)).cps.toList.all okC = true
  rw [List.all_eq_true] at h ⊢
  intro c hc
  exact h c (List.mem_of_mem_drop (by simpa [S] using hc))

def sp_law (K : PySem.W.Frag) : Spw := fun ws W Q _ => match ws with
  | [t] => ∃ ns : List Int, kindW W t = some (true, ns.map T.int) ∧ ns.length ≤ 63 ∧ LamOk (He.cT K ("_law_are_refused", none)).2 ((envOfC "_law_are_refused" (defScope s__law_are_refused) 0 0 .none).qual ++ "<lambda>") W ∧ ∀ W', Q (.bl true) W'
  | _ => False
theorem editB_of {x n : Str} {a b : Int} (h0 : 0 ≤ a) (h1 : a ≤ b) (h2 : b ≤ x.length) (hx : x.length ≤ 100000) (hn : textB (.str n) = true) : editB x (.tup [.int a, .int b, .str n]) = true := by
  simp only [editB, btwB, wholeB, Bool.and_eq_true, decide_eq_true_eq]
  refine ⟨⟨⟨by omega, by omega⟩, h0, by omega⟩, ⟨⟨by omega, by omega⟩, h1, h2⟩, hn⟩
theorem she_of {W : Hw} {n : Str} {a b : Int} (hn : n.length ≤ 100000) : ShE W (.tup [.int a, .int b, .str n]) := by
  refine ⟨rfl, fun xs hxs y hy => ?_⟩
  cases hxs
  simp only [List.mem_cons, List.not_mem_nil, or_false] at hy
  rcases hy with h | h | h <;> subst h
  · exact ⟨rfl, fun y hy => by cases hy⟩
  · exact ⟨rfl, fun y hy => by cases hy⟩
  · exact ⟨rfl, fun y hy => by cases hy; exact hn⟩
theorem spE_ok {K : PySem.W.Frag} {res : Str → Int → Int → Str → T} {x n : Str} {a b : Int} {W : Hw} {Q : Kw} {E : Addr → T → Hw → Prop} (hx : x.length ≤ 100000) (ht : textB (.str x) = true) (h0 : 0 ≤ a) (h1 : a ≤ b) (h2 : b ≤ x.length) (hn : textB (.str n) = true) (hl : n.length ≤ 100000) (h : Q (res x a b n) W) : spE K res [.str x, .tup [.int a, .int b, .str n]] W Q E := by
  refine ⟨hx, she_of hl, ?_⟩
  rw [if_pos ht, if_pos (editB_of h0 h1 h2 hx hn)]
  exact h
/-- the edit undone -/
theorem undo_ok {x n : Str} {a b : Int} (h0 : 0 ≤ a) (h1 : a ≤ b) (h2 : b ≤ x.length) :
    ((behindS x a b n).length : Int) = x.length - (b - a) + n.length ∧ cutS (behindS x a b n) (some a) (some (a + n.length)) = n ∧ behindS (behindS x a b n) a (a + n.length) (cutS x (some a) (some b)) = x := by
  obtain ⟨l, rfl⟩ := S_of x
  obtain ⟨m, rfl⟩ := S_of n
  rw [S_len] at h2
  have e : behindS (S l) a b (S m) = S (l.take a.toNat ++ m ++ l.drop b.toNat) := by
    unfold behindS
    rw [cut_lo h0 (by omega), cut_hi (by omega) h2, S_cat, S_cat]
  have hta : (l.take a.toNat).length = a.toNat := by rw [List.length_take]; omega
  have hlen : (l.take a.toNat ++ m ++ l.drop b.toNat).length = a.toNat + m.length + (l.length - b.toNat) := by
    rw [List.length_append, List.length_append, hta, List.length_drop]
  rw [e]
  simp only [S_len]
  have hd : (l.take a.toNat ++ m ++ l.drop b.toNat).drop a.toNat = m ++ l.drop b.toNat := by
    rw [List.append_assoc]
    exact List.drop_left' hta
  refine ⟨by rw [hlen]; omega, ?_, ?_⟩
  · rw [cut_mid h0 (by omega) (by rw [hlen]; omega), hd]
    have e2 : (a + (m.length : Int)).toNat - a.toNat = m.length := by omega
    rw [e2, List.take_left]
  · unfold behindS
    rw [cut_lo h0 (by rw [hlen]; omega), cut_hi (by omega) (by rw [hlen]; omega), cut_mid h0 h1 h2, S_cat, S_cat]
    congr 1
    have e1 : (l.take a.toNat ++ m ++ l.drop b.toNat).take a.toNat = l.take a.toNat := by
      rw [List.append_assoc]
      exact List.take_left' hta
    have e2 : (l.take a.toNat ++ m ++ l.drop b.toNat).drop (a + (m.length : Int)).toNat = l.drop b.toNat := by
      exact List.drop_left' (by rw [List.length_append, hta]; omega)
    rw [e1, e2]
    have e4 : l = l.take a.toNat ++ ((l.drop a.toNat).take (b.toNat - a.toNat) ++ l.drop b.toNat) := by
      have h3 : l.drop b.toNat = (l.drop a.toNat).drop (b.toNat - a.toNat) := by
        rw [List.drop_drop]; congr 1; omega
      rw [h3, List.take_append_drop, List.take_append_drop]
    rw [List.append_assoc]
    exact e4.symm
def Step (top : Str) (b : T) (s : Str) : Prop := ∃ (a c : Int) (m : Str), b = .tup [.int a, .int c, .str m] ∧ (0 ≤ a ∧ a ≤ c ∧ c ≤ top.length) ∧ textB (.str m) = true ∧ m.length ≤ 1000 ∧ behindS top a c m = s
def Good (x : Str) : Prop := textB (.str x) = true ∧ x.length ≤ 1000
def Chain : Str → List (Str × T) → Prop
  | _, [] => True
  | top, (s, b) :: r => Good s ∧ Step top b s ∧ Chain s r
theorem Chain.good : ∀ {top : Str} {r : List (Str × T)}, Chain top r → ∀ p ∈ r, Good p.1
  | _, [], _, p, hp => by cases hp
  | _, (s, b) :: r, h, p, hp => by
    rcases List.mem_cons.mp hp with e | e
    · rw [e]; exact h.1
    · exact Chain.good h.2.2 p e

abbrev N_is_whole : List Str := ["thing"]
theorem sc_is_whole : FnScope N_is_whole ["thing"] (defScope s_is_whole) := ⟨rfl, rfl, rfl, by decide +kernel, rfl, by decide +kernel, by decide +kernel⟩
theorem ok_is_whole (F : Fs K mg) : Cal P w K mg base 1 "is_whole" s_is_whole ["thing"] sp_is_whole := by
  obtain ⟨fd, Fn⟩ := F.f_is_whole
  refine ⟨_, fd, F.g_is_whole, Fn, Fn.binds (fun _ _ _ _ _ _ us hl => match us, hl with | [_], _ => rfl), FnT.ok (k := 0) Fn sc_is_whole ?len (fun cdv A outer s H E hr => (ls_one (s_ret (w_and (w_callB ct_isi F.n_isinstance PyProof.Rows.boot_isinstance (la_cons (w_var 0) (la_cons (w_ty F.n_int PyProof.Rows.boot_int) la_nil))) (w_and (w_not (w_callB ct_isi F.n_isinstance PyProof.Rows.boot_isinstance (la_cons (w_var 0) (la_cons (w_ty F.n_bool PyProof.Rows.boot_bool) la_nil)))) (w_one (w_chain ot_lt ot_lt (w_neg (w_gint F.c_MOST_WHOLE.choose_spec)) (w_var 0) (w_gint F.c_MOST_WHOLE.choose_spec)))))))) ?sem⟩
  case len => intro ws W R E h; unfold sp_is_whole at h; split at h <;> first | rfl | exact h.elim
  case sem =>
    intro ws W R E h
    unfold sp_is_whole at h
    split at h <;> try exact h.elim
    obtain ⟨ht, hq⟩ := h
    simp only [wRet, wAnd, wOr, wNot, wAndT, wOrT, wNotT, wCB, wCons, wNil, wVar, wK, wTest, wOp, wChain, wIf, wIfS, wSeq, wAsg, wPar, wPar3, wDrop, wNext, wTup, wLst, wSl, wPart, wNoPart, wRev, wCall, wCallK, wFor, wBM, wEmp, wRaise, wZipL, wYes, wDisp, wPairs, wSub, endsF, startw, setG, setGs, List.map_cons, List.map_nil, List.length_cons, List.length_nil, List.cons_append, List.nil_append, List.append_nil, List.replicate, List.getElem?_cons_zero, List.getElem?_cons_succ, List.set_cons_zero, List.set_cons_succ, Nat.reduceAdd, Nat.reduceSub, Nat.add_sub_cancel, Nat.sub_self, if_true, if_false, Bool.true_eq_false, Bool.false_eq_true, reduceIte, Bool.not_true, Bool.not_false, rIsi_int ht, rIsi_bool ht]
    rename_i t
    cases t <;> first | exact ⟨W, .refl W, hq⟩ | skip
    case int i =>
      simp only [isIntT, isBlT, Bool.not_false, rLtT, if_true]
      by_cases h1 : -100000000000000000000 < i
      · simp only [h1, decide_true, if_true]
        refine ⟨W, .refl W, ?_⟩
        simpa [wholeB, h1] using hq
      · simp only [h1, decide_false, Bool.false_eq_true, if_false]
        refine ⟨W, .refl W, ?_⟩
        simpa [wholeB, h1] using hq
abbrev N_is_whole_between : List Str := ["thing", "least", "most"]
theorem sc_is_whole_between : FnScope N_is_whole_between ["thing", "least", "most"] (defScope s_is_whole_between) := ⟨rfl, rfl, rfl, by decide +kernel, rfl, by decide +kernel, by decide +kernel⟩
theorem ok_is_whole_between (F : Fs K mg) (C_is_whole : Cal P w K mg base 1 "is_whole" s_is_whole ["thing"] sp_is_whole) : Cal P w K mg base 2 "is_whole_between" s_is_whole_between ["thing", "least", "most"] sp_is_whole_between := by
  obtain ⟨fd, Fn⟩ := F.f_is_whole_between
  refine ⟨_, fd, F.g_is_whole_between, Fn, Fn.binds (fun _ _ _ _ _ _ us hl => match us, hl with | [_, _, _], _ => rfl), FnT.ok (k := 1) Fn sc_is_whole_between ?len (fun cdv A outer s H E hr => (ls_one (s_ret (w_and (w_cal C_is_whole hr (takes_of rfl rfl rfl rfl) (la_cons (w_var 0) la_nil)) (w_one (w_chain ot_le ot_le (w_var 1) (w_var 0) (w_var 2))))))) ?sem⟩
  case len => intro ws W R E h; unfold sp_is_whole_between at h; split at h <;> first | rfl | exact h.elim
  case sem =>
    intro ws W R E h
    unfold sp_is_whole_between at h
    split at h <;> try exact h.elim
    obtain ⟨ht, hq⟩ := h
    simp only [wRet, wAnd, wOr, wNot, wAndT, wOrT, wNotT, wCB, wCons, wNil, wVar, wK, wTest, wOp, wChain, wIf, wIfS, wSeq, wAsg, wPar, wPar3, wDrop, wNext, wTup, wLst, wSl, wPart, wNoPart, wRev, wCall, wCallK, wFor, wBM, wEmp, wRaise, wZipL, wYes, wDisp, wPairs, wSub, endsF, startw, setG, setGs, List.map_cons, List.map_nil, List.length_cons, List.length_nil, List.cons_append, List.nil_append, List.append_nil, List.replicate, List.getElem?_cons_zero, List.getElem?_cons_succ, List.set_cons_zero, List.set_cons_succ, Nat.reduceAdd, Nat.reduceSub, Nat.add_sub_cancel, Nat.sub_self, if_true, if_false, Bool.true_eq_false, Bool.false_eq_true, reduceIte, Bool.not_true, Bool.not_false, sp_is_whole]
    refine ⟨ht, ?_⟩
    rename_i t a b
    cases t <;> first | exact ⟨W, .refl W, hq⟩ | skip
    case int i =>
      simp only [rLeT]
      by_cases h0 : wholeB (.int i) = true
      · by_cases h1 : a ≤ i
        · simp only [h0, h1, decide_true, if_true]
          refine ⟨W, .refl W, ?_⟩
          simpa [btwB, h0, h1] using hq
        · simp only [h0, h1, decide_false, Bool.false_eq_true, if_false, if_true]
          refine ⟨W, .refl W, ?_⟩
          simpa [btwB, h0, h1] using hq
      · simp only [h0, Bool.false_eq_true, if_false]
        refine ⟨W, .refl W, ?_⟩
        simpa [btwB, h0] using hq
abbrev N_is_tuple_of : List Str := ["thing", "many"]
theorem sc_is_tuple_of : FnScope N_is_tuple_of ["thing", "many"] (defScope s_is_tuple_of) := ⟨rfl, rfl, rfl, by decide +kernel, rfl, by decide +kernel, by decide +kernel⟩
theorem ok_is_tuple_of (F : Fs K mg) : Cal P w K mg base 1 "is_tuple_of" s_is_tuple_of ["thing", "many"] sp_is_tuple_of := by
  obtain ⟨fd, Fn⟩ := F.f_is_tuple_of
  refine ⟨_, fd, F.g_is_tuple_of, Fn, Fn.binds (fun _ _ _ _ _ _ us hl => match us, hl with | [_, _], _ => rfl), FnT.ok (k := 0) Fn sc_is_tuple_of ?len (fun cdv A outer s H E hr => (ls_one (s_ret (w_and (w_callB ct_isi F.n_isinstance PyProof.Rows.boot_isinstance (la_cons (w_var 0) (la_cons (w_ty F.n_tuple PyProof.Rows.boot_tuple) la_nil))) (w_one (w_cmp (ot_eq (hr).units) (w_callB ct_len F.n_len PyProof.Rows.bootS_len (la_cons (w_var 0) la_nil)) (w_var 1))))))) ?sem⟩
  case len => intro ws W R E h; unfold sp_is_tuple_of at h; split at h <;> first | rfl | exact h.elim
  case sem =>
    intro ws W R E h
    unfold sp_is_tuple_of at h
    split at h <;> try exact h.elim
    obtain ⟨ht, hq⟩ := h
    simp only [wRet, wAnd, wOr, wNot, wAndT, wOrT, wNotT, wCB, wCons, wNil, wVar, wK, wTest, wOp, wChain, wIf, wIfS, wSeq, wAsg, wPar, wPar3, wDrop, wNext, wTup, wLst, wSl, wPart, wNoPart, wRev, wCall, wCallK, wFor, wBM, wEmp, wRaise, wZipL, wYes, wDisp, wPairs, wSub, endsF, startw, setG, setGs, List.map_cons, List.map_nil, List.length_cons, List.length_nil, List.cons_append, List.nil_append, List.append_nil, List.replicate, List.getElem?_cons_zero, List.getElem?_cons_succ, List.set_cons_zero, List.set_cons_succ, Nat.reduceAdd, Nat.reduceSub, Nat.add_sub_cancel, Nat.sub_self, if_true, if_false, Bool.true_eq_false, Bool.false_eq_true, reduceIte, Bool.not_true, Bool.not_false, rIsi_tup ht]
    rename_i t n
    cases t <;> first | exact ⟨W, .refl W, hq⟩ | skip
    case tup xs =>
      simp only [isTupT, if_true, rLen, lenT, rEqT, Bool.false_bne]
      exact ⟨W, .refl W, hq⟩
abbrev N_is_sign : List Str := ["sign"]
theorem sc_is_sign : FnScope N_is_sign ["sign"] (defScope s_is_sign) := ⟨rfl, rfl, rfl, by decide +kernel, rfl, by decide +kernel, by decide +kernel⟩
theorem ok_is_sign (F : Fs K mg) : Cal P w K mg base 1 "is_sign" s_is_sign ["sign"] sp_is_sign := by
  obtain ⟨fd, Fn⟩ := F.f_is_sign
  refine ⟨_, fd, F.g_is_sign, Fn, Fn.binds (fun _ _ _ _ _ _ us hl => match us, hl with | [_], _ => rfl), FnT.ok (k := 0) Fn sc_is_sign ?len (fun cdv A outer s H E hr => (ls_one (s_ret (w_and (w_chain ot_le ot_le w_str (w_var 0) w_str) (w_one (w_cmp (ot_ne (hr).units) (w_callB ct_ord F.n_ord PyProof.Rows.boot_ord (la_cons (w_var 0) la_nil)) (w_gint F.c_LEFT_OUT.choose_spec))))))) ?sem⟩
  case len => intro ws W R E h; unfold sp_is_sign at h; split at h <;> first | rfl | exact h.elim
  case sem =>
    intro ws W R E h
    unfold sp_is_sign at h
    split at h <;> try exact h.elim
    obtain ⟨c, rfl, hq⟩ := h
    simp only [wRet, wAnd, wOr, wNot, wAndT, wOrT, wNotT, wCB, wCons, wNil, wVar, wK, wTest, wOp, wChain, wIf, wIfS, wSeq, wAsg, wPar, wPar3, wDrop, wNext, wTup, wLst, wSl, wPart, wNoPart, wRev, wCall, wCallK, wFor, wBM, wEmp, wRaise, wZipL, wYes, wDisp, wPairs, wSub, endsF, startw, setG, setGs, List.map_cons, List.map_nil, List.length_cons, List.length_nil, List.cons_append, List.nil_append, List.append_nil, List.replicate, List.getElem?_cons_zero, List.getElem?_cons_succ, List.set_cons_zero, List.set_cons_succ, Nat.reduceAdd, Nat.reduceSub, Nat.add_sub_cancel, Nat.sub_self, if_true, if_false, Bool.true_eq_false, Bool.false_eq_true, reduceIte, Bool.not_true, Bool.not_false, rLeT, rOrd]
    have e1 : ((" " : Str)).cps.toList = [32] := by decide +kernel
    have e2 : (("~" : Str)).cps.toList = [126] := by decide +kernel
    simp only [e1, e2, lt_one]
    by_cases h1 : c < 32
    · simp only [h1, decide_true, Bool.not_true, Bool.false_eq_true, if_false]
      refine ⟨W, .refl W, ?_⟩
      have e : signB c = false := by unfold signB; simp; omega
      rw [e] at hq; exact hq
    · by_cases h2 : 126 < c
      · simp only [h1, h2, decide_true, decide_false, Bool.not_true, Bool.not_false, Bool.false_eq_true, if_false, if_true]
        refine ⟨W, .refl W, ?_⟩
        have e : signB c = false := by unfold signB; simp; omega
        rw [e] at hq; exact hq
      · simp only [h1, h2, decide_false, Bool.not_false, if_true, rEqT]
        refine ⟨rfl, W, .refl W, ?_⟩
        have e : signB c = (true != decide (((#[c] : Array Nat).getD 0 0 : Int) = 37)) := by
          unfold signB
          have e3 : ((#[c] : Array Nat).getD 0 0) = c := rfl
          rw [e3]
          have e4 : decide (32 ≤ c) = true := by simp; omega
          have e5 : decide (c ≤ 126) = true := by simp; omega
          rw [e4, e5]
          by_cases h3 : c = 37
          · subst h3; rfl
          · have h4 : ¬ ((c : Int) = 37) := by omega
            simp [h3, h4]
        rw [e] at hq; exact hq
abbrev N_is_text : List Str := ["thing", "sign"]
theorem sc_is_text : FnScope N_is_text ["thing"] (defScope s_is_text) := ⟨rfl, rfl, rfl, by decide +kernel, rfl, by decide +kernel, by decide +kernel⟩
theorem ok_is_text (F : Fs K mg) (C_is_sign : Cal P w K mg base 1 "is_sign" s_is_sign ["sign"] sp_is_sign) : Cal P w K mg base 2 "is_text" s_is_text ["thing"] sp_is_text := by
  obtain ⟨fd, Fn⟩ := F.f_is_text
  refine ⟨_, fd, F.g_is_text, Fn, Fn.binds (fun _ _ _ _ _ _ us hl => match us, hl with | [_], _ => rfl), FnT.ok (k := 1) Fn sc_is_text ?len (fun cdv A outer s H E hr => (ls_one (s_ret (w_and (w_callB ct_isi F.n_isinstance PyProof.Rows.boot_isinstance (la_cons (w_var 0) (la_cons (w_ty F.n_str PyProof.Rows.boot_str) la_nil))) (w_one (w_callB (ct_all rfl) F.n_all PyProof.Rows.boot_all (la_cons (w_lc (own := [("sign", 1)]) rfl sc_is_text.nd (i_seq (w_var 0)) (blkOk_by (own := [("sign", 1)]) (N := N_is_text) (sc := defScope s_is_text) (by decide +kernel)) (fun _ _ _ _ _ => (g_name 1 sc_is_text.nd)) (fun _ _ _ _ _ => lts_nil) (fun _ _ _ _ _ => (w_or (w_cmp (ot_eq (hr).units) (w_var 1) (w_gstr F.c_FEED.choose_spec)) (w_one (w_cal C_is_sign hr LamX.takes0 (la_cons (w_var 1) la_nil)))))) la_nil))))))) ?sem⟩
  case len => intro ws W R E h; unfold sp_is_text at h; split at h <;> first | rfl | exact h.elim
  case sem =>
    intro ws W R E h
    unfold sp_is_text at h
    split at h <;> try exact h.elim
    obtain ⟨⟨ht, hl⟩, hq⟩ := h
    simp only [wRet, wAnd, wOr, wNot, wAndT, wOrT, wNotT, wCB, wCons, wNil, wVar, wK, wTest, wOp, wChain, wIf, wIfS, wSeq, wAsg, wPar, wPar3, wDrop, wNext, wTup, wLst, wSl, wPart, wNoPart, wRev, wCall, wCallK, wFor, wBM, wEmp, wRaise, wZipL, wYes, wDisp, wPairs, wSub, endsF, startw, setG, setGs, List.map_cons, List.map_nil, List.length_cons, List.length_nil, List.cons_append, List.nil_append, List.append_nil, List.replicate, List.getElem?_cons_zero, List.getElem?_cons_succ, List.set_cons_zero, List.set_cons_succ, Nat.reduceAdd, Nat.reduceSub, Nat.add_sub_cancel, Nat.sub_self, if_true, if_false, Bool.true_eq_false, Bool.false_eq_true, reduceIte, Bool.not_true, Bool.not_false, rIsi_str ht]
    rename_i t
    cases t <;> first | exact ⟨W, .refl W, hq⟩ | skip
    case str x =>
      simp only [isStrT, if_true, wLc, wSeqI, signsT]
      intro p hp
      refine lcGo_map (fun c => T.str ⟨#[c]⟩) (fun c => T.bl (okC c)) _ [] (fun c _ => ⟨_, rfl, fun acc R hR => ?_⟩) (fun _ => trivial) (by
        have hx := hl x rfl
        have e : x.cps.toList.length = x.length := by simp [Str.length]
        rw [List.length_nil, e, sizeLine_eq]; omega) ?_
      · simp only [wRet, wAnd, wOr, wNot, wAndT, wOrT, wNotT, wCB, wCons, wNil, wVar, wK, wTest, wOp, wChain, wIf, wIfS, wSeq, wAsg, wPar, wPar3, wDrop, wNext, wTup, wLst, wSl, wPart, wNoPart, wRev, wCall, wCallK, wFor, wBM, wEmp, wRaise, wZipL, wYes, wDisp, wPairs, wSub, endsF, startw, setG, setGs, List.map_cons, List.map_nil, List.length_cons, List.length_nil, List.cons_append, List.nil_append, List.append_nil, List.replicate, List.getElem?_cons_zero, List.getElem?_cons_succ, List.set_cons_zero, List.set_cons_succ, Nat.reduceAdd, Nat.reduceSub, Nat.add_sub_cancel, Nat.sub_self, if_true, if_false, Bool.true_eq_false, Bool.false_eq_true, reduceIte, Bool.not_true, Bool.not_false, wipeW, rEqT, sp_is_sign, feed_eq, Bool.false_bne]
        by_cases h1 : c = 10
        · simp only [h1, decide_true, if_true]
          have e : okC c = true := by rw [okC_eq]; simp [h1]
          rw [e] at hR; exact hR
        · simp only [h1, decide_false, Bool.false_eq_true, if_false]
          refine ⟨c, rfl, ?_⟩
          have e : okC c = signB c := by rw [okC_eq]; simp [h1]
          rw [e] at hR; exact hR
      · simp only [rAllT, updw_same, List.nil_append]
        have e : x.cps.toList.map (fun c => T.bl (okC c)) = (x.cps.toList.map okC).map T.bl := by rw [List.map_map]; rfl
        rw [e, boolsT_map]
        refine ⟨W, Sub.new hp, ?_⟩
        have e2 : (x.cps.toList.map okC).all id = textB (.str x) := by simp [textB, List.all_map]
        rw [e2]; exact hq
abbrev N_need_text : List Str := ["text"]
theorem sc_need_text : FnScope N_need_text ["text"] (defScope s_need_text) := ⟨rfl, rfl, rfl, by decide +kernel, rfl, by decide +kernel, by decide +kernel⟩
theorem ok_need_text (F : Fs K mg) (C_is_text : Cal P w K mg base 2 "is_text" s_is_text ["thing"] sp_is_text) : Cal P w K mg base 3 "need_text" s_need_text ["text"] (sp_need_text K) := by
  obtain ⟨fd, Fn⟩ := F.f_need_text
  refine ⟨_, fd, F.g_need_text, Fn, Fn.binds (fun _ _ _ _ _ _ us hl => match us, hl with | [_], _ => rfl), FnT.ok (k := 2) Fn sc_need_text ?len (fun cdv A outer s H E hr => (ls_one (s_if (lt_not (lt_val (w_cal C_is_text hr (takes_of rfl rfl rfl rfl) (la_cons (w_var 0) la_nil)))) (ls_one (s_raise rfl F.e_BadText F.g_BadText hr (takes_of rfl rfl rfl rfl) (w_var 0))) ls_nil))) ?sem⟩
  case len => intro ws W R E h; unfold sp_need_text at h; split at h <;> first | rfl | exact h.elim
  case sem =>
    intro ws W R E h
    unfold sp_need_text at h
    split at h <;> try exact h.elim
    obtain ⟨hs, hq⟩ := h
    simp only [wRet, wAnd, wOr, wNot, wAndT, wOrT, wNotT, wCB, wCons, wNil, wVar, wK, wTest, wOp, wChain, wIf, wIfS, wSeq, wAsg, wPar, wPar3, wDrop, wNext, wTup, wLst, wSl, wPart, wNoPart, wRev, wCall, wCallK, wFor, wBM, wEmp, wRaise, wZipL, wYes, wDisp, wPairs, wSub, endsF, startw, setG, setGs, List.map_cons, List.map_nil, List.length_cons, List.length_nil, List.cons_append, List.nil_append, List.append_nil, List.replicate, List.getElem?_cons_zero, List.getElem?_cons_succ, List.set_cons_zero, List.set_cons_succ, Nat.reduceAdd, Nat.reduceSub, Nat.add_sub_cancel, Nat.sub_self, if_true, if_false, Bool.true_eq_false, Bool.false_eq_true, reduceIte, Bool.not_true, Bool.not_false, sp_is_text]
    refine ⟨hs, ?_⟩
    rename_i t
    by_cases hb : textB t = true
    · simp only [hb, if_true, Bool.not_true, Bool.false_eq_true, if_false] at hq ⊢
      exact ⟨W, .refl W, hq⟩
    · have hb' : textB t = false := by simpa using hb
      simp only [hb', Bool.not_false, Bool.false_eq_true, if_true, if_false] at hq ⊢
      exact ⟨W, .refl W, hq⟩
abbrev N_is_edit : List Str := ["text", "thing"]
theorem sc_is_edit : FnScope N_is_edit ["text", "thing"] (defScope s_is_edit) := ⟨rfl, rfl, rfl, by decide +kernel, rfl, by decide +kernel, by decide +kernel⟩
theorem ok_is_edit (F : Fs K mg) (C_is_text : Cal P w K mg base 2 "is_text" s_is_text ["thing"] sp_is_text) (C_is_whole_between : Cal P w K mg base 2 "is_whole_between" s_is_whole_between ["thing", "least", "most"] sp_is_whole_between) (C_is_tuple_of : Cal P w K mg base 1 "is_tuple_of" s_is_tuple_of ["thing", "many"] sp_is_tuple_of) : Cal P w K mg base 3 "is_edit" s_is_edit ["text", "thing"] sp_is_edit := by
  obtain ⟨fd, Fn⟩ := F.f_is_edit
  refine ⟨_, fd, F.g_is_edit, Fn, Fn.binds (fun _ _ _ _ _ _ us hl => match us, hl with | [_, _], _ => rfl), FnT.ok (k := 2) Fn sc_is_edit ?len (fun cdv A outer s H E hr => (ls_cons (s_if (lt_w (lw_or (lt_not (lt_val (w_cal C_is_tuple_of hr (takes_of rfl rfl rfl rfl) (la_cons (w_var 1) (la_cons (w_gint F.c_PARTS.choose_spec) la_nil))))) (lw_or1 (lt_not (lt_val (w_cal C_is_whole_between hr (takes_of rfl rfl rfl rfl) (la_cons (w_ix (w_var 1) w_int) (la_cons w_int (la_cons (w_callB ct_len F.n_len PyProof.Rows.bootS_len (la_cons (w_var 0) la_nil)) la_nil))))))))) (ls_one (s_ret w_bl)) ls_nil) (ls_one (s_ret (w_and (w_cal C_is_whole_between hr (takes_of rfl rfl rfl rfl) (la_cons (w_ix (w_var 1) w_int) (la_cons (w_ix (w_var 1) w_int) (la_cons (w_callB ct_len F.n_len PyProof.Rows.bootS_len (la_cons (w_var 0) la_nil)) la_nil)))) (w_one (w_cal C_is_text hr (takes_of rfl rfl rfl rfl) (la_cons (w_ix (w_var 1) w_int) la_nil)))))))) ?sem⟩
  case len => intro ws W R E h; unfold sp_is_edit at h; split at h <;> first | rfl | exact h.elim
  case sem =>
    intro ws W R E h
    unfold sp_is_edit at h
    split at h <;> try exact h.elim
    obtain ⟨hx, ⟨hty, hsh⟩, hq⟩ := h
    simp only [wRet, wAnd, wOr, wNot, wAndT, wOrT, wNotT, wCB, wCons, wNil, wVar, wK, wTest, wOp, wChain, wIf, wIfS, wSeq, wAsg, wPar, wPar3, wDrop, wNext, wTup, wLst, wSl, wPart, wNoPart, wRev, wCall, wCallK, wFor, wBM, wEmp, wRaise, wZipL, wYes, wDisp, wPairs, wSub, endsF, startw, setG, setGs, List.map_cons, List.map_nil, List.length_cons, List.length_nil, List.cons_append, List.nil_append, List.append_nil, List.replicate, List.getElem?_cons_zero, List.getElem?_cons_succ, List.set_cons_zero, List.set_cons_succ, Nat.reduceAdd, Nat.reduceSub, Nat.add_sub_cancel, Nat.sub_self, if_true, if_false, Bool.true_eq_false, Bool.false_eq_true, reduceIte, Bool.not_true, Bool.not_false, sp_is_tuple_of]
    refine ⟨hty, ?_⟩
    rename_i x t
    cases t <;> first | exact ⟨W, .refl W, hq⟩ | skip
    case tup xs =>
      by_cases h3 : (xs.length : Int) = 3
      · obtain ⟨a, b, c, rfl⟩ : ∃ a b c, xs = [a, b, c] := by
          match xs, h3 with
          | [a, b, c], _ => exact ⟨a, b, c, rfl⟩
          | [], h => simp at h
          | [_], h => simp at h
          | [_, _], h => simp at h
          | _ :: _ :: _ :: _ :: _, h => simp at h; omega
        have ha := hsh _ rfl a (by simp)
        have hb := hsh _ rfl b (by simp)
        have hc := hsh _ rfl c (by simp)
        have hl : x.length ≤ sizeLine := by rw [sizeLine_eq]; omega
        have i0 : atI [a, b, c] 0 = some a := rfl
        have i1 : atI [a, b, c] 1 = some b := rfl
        have i2 : atI [a, b, c] 2 = some c := rfl
        have ht : tupB (.tup [a, b, c]) 3 = true := by simp [tupB]
        simp only [ht, Bool.not_true, Bool.false_eq_true, if_false, rIxT, itemsT, i0, i1, i2, rLen, sp_is_whole_between, sp_is_text]
        refine ⟨hl, ha.1, ?_⟩
        cases a
        case int i =>
          by_cases b0 : btwB (.int i) 0 x.length = true
          · simp only [b0, Bool.not_true, Bool.false_eq_true, if_false]
            refine ⟨hl, hb.1, ?_⟩
            by_cases b1 : btwB b i x.length = true
            · simp only [b1, if_true]
              refine ⟨hc, W, .refl W, ?_⟩
              simpa [editB, b0, b1] using hq
            · simp only [b1, Bool.false_eq_true, if_false]
              refine ⟨W, .refl W, ?_⟩
              simpa [editB, b0, b1] using hq
          · simp only [Bool.not_eq_true] at b0
            simp only [b0, Bool.not_false, if_true]
            refine ⟨W, .refl W, ?_⟩
            simpa [editB, b0] using hq
        all_goals (simp only [btwB, Bool.not_false, if_true]; exact ⟨W, .refl W, hq⟩)
      · have ht : tupB (.tup xs) 3 = false := by simp [tupB, h3]
        simp only [ht, Bool.not_false, if_true]
        refine ⟨W, .refl W, ?_⟩
        have e : editB x (.tup xs) = false := by
          unfold editB
          split
          · rename_i e; cases e; simp at h3
          · rfl
        rw [e] at hq; exact hq
abbrev N_need_edit : List Str := ["text", "edit"]
theorem sc_need_edit : FnScope N_need_edit ["text", "edit"] (defScope s_need_edit) := ⟨rfl, rfl, rfl, by decide +kernel, rfl, by decide +kernel, by decide +kernel⟩
theorem ok_need_edit (F : Fs K mg) (C_is_edit : Cal P w K mg base 3 "is_edit" s_is_edit ["text", "thing"] sp_is_edit) : Cal P w K mg base 4 "need_edit" s_need_edit ["text", "edit"] (sp_need_edit K) := by
  obtain ⟨fd, Fn⟩ := F.f_need_edit
  refine ⟨_, fd, F.g_need_edit, Fn, Fn.binds (fun _ _ _ _ _ _ us hl => match us, hl with | [_, _], _ => rfl), FnT.ok (k := 3) Fn sc_need_edit ?len (fun cdv A outer s H E hr => (ls_one (s_if (lt_not (lt_val (w_cal C_is_edit hr (takes_of rfl rfl rfl rfl) (la_cons (w_var 0) (la_cons (w_var 1) la_nil))))) (ls_one (s_raise rfl F.e_BadEdit F.g_BadEdit hr (takes_of rfl rfl rfl rfl) (w_var 1))) ls_nil))) ?sem⟩
  case len => intro ws W R E h; unfold sp_need_edit at h; split at h <;> first | rfl | exact h.elim
  case sem =>
    intro ws W R E h
    unfold sp_need_edit at h
    split at h <;> try exact h.elim
    obtain ⟨hx, hs, hq⟩ := h
    simp only [wRet, wAnd, wOr, wNot, wAndT, wOrT, wNotT, wCB, wCons, wNil, wVar, wK, wTest, wOp, wChain, wIf, wIfS, wSeq, wAsg, wPar, wPar3, wDrop, wNext, wTup, wLst, wSl, wPart, wNoPart, wRev, wCall, wCallK, wFor, wBM, wEmp, wRaise, wZipL, wYes, wDisp, wPairs, wSub, endsF, startw, setG, setGs, List.map_cons, List.map_nil, List.length_cons, List.length_nil, List.cons_append, List.nil_append, List.append_nil, List.replicate, List.getElem?_cons_zero, List.getElem?_cons_succ, List.set_cons_zero, List.set_cons_succ, Nat.reduceAdd, Nat.reduceSub, Nat.add_sub_cancel, Nat.sub_self, if_true, if_false, Bool.true_eq_false, Bool.false_eq_true, reduceIte, Bool.not_true, Bool.not_false, sp_is_edit]
    refine ⟨hx, hs, ?_⟩
    rename_i x t
    by_cases hb : editB x t = true
    · simp only [hb, if_true, Bool.not_true, Bool.false_eq_true, if_false] at hq ⊢
      exact ⟨W, .refl W, hq⟩
    · have hb' : editB x t = false := by simpa using hb
      simp only [hb', Bool.not_false, Bool.false_eq_true, if_true, if_false] at hq ⊢
      exact ⟨W, .refl W, hq⟩
abbrev N_text_behind : List Str := ["text", "edit", "start", "stop", "new"]
theorem sc_text_behind : FnScope N_text_behind ["text", "edit"] (defScope s_text_behind) := ⟨rfl, rfl, rfl, by decide +kernel, rfl, by decide +kernel, by decide +kernel⟩
theorem ok_text_behind (F : Fs K mg) : Cal P w K mg base 1 "text_behind" s_text_behind ["text", "edit"] sp_text_behind := by
  obtain ⟨fd, Fn⟩ := F.f_text_behind
  refine ⟨_, fd, F.g_text_behind, Fn, Fn.binds (fun _ _ _ _ _ _ us hl => match us, hl with | [_, _], _ => rfl), FnT.ok (k := 0) Fn sc_text_behind ?len (fun cdv A outer s H E hr => (ls_cons (s_asg (w_var 1) (g_tup rfl (gs_cons (g_name 2 sc_text_behind.nd) (gs_cons (g_name 3 sc_text_behind.nd) (gs_cons (g_name 4 sc_text_behind.nd) gs_nil))))) (ls_one (s_ret (w_op ot_add (w_op ot_add (w_slice (w_var 0) lo_none (lo_some (w_var 2))) (w_var 4)) (w_slice (w_var 0) (lo_some (w_var 3)) lo_none)))))) ?sem⟩
  case len => intro ws W R E h; unfold sp_text_behind at h; split at h <;> first | rfl | exact h.elim
  case sem =>
    intro ws W R E h
    unfold sp_text_behind at h
    split at h <;> try exact h.elim
    obtain ⟨⟨h0, h1, h2⟩, hx, hn, hq⟩ := h
    simp only [wRet, wAnd, wOr, wNot, wAndT, wOrT, wNotT, wCB, wCons, wNil, wVar, wK, wTest, wOp, wChain, wIf, wIfS, wSeq, wAsg, wPar, wPar3, wDrop, wNext, wTup, wLst, wSl, wPart, wNoPart, wRev, wCall, wCallK, wFor, wBM, wEmp, wRaise, wZipL, wYes, wDisp, wPairs, wSub, endsF, startw, setG, setGs, List.map_cons, List.map_nil, List.length_cons, List.length_nil, List.cons_append, List.nil_append, List.append_nil, List.replicate, List.getElem?_cons_zero, List.getElem?_cons_succ, List.set_cons_zero, List.set_cons_succ, Nat.reduceAdd, Nat.reduceSub, Nat.add_sub_cancel, Nat.sub_self, if_true, if_false, Bool.true_eq_false, Bool.false_eq_true, reduceIte, Bool.not_true, Bool.not_false, rSlT, rAddT]
    obtain ⟨l1, l2⟩ := behind_len h0 h1 h2
    rw [str_len_cat, l1, l2, sizeLine_eq]
    refine ⟨by omega, by omega, by omega, by omega, W, .refl W, hq⟩
abbrev N_edited : List Str := ["text", "edit"]
theorem sc_edited : FnScope N_edited ["text", "edit"] (defScope s_edited) := ⟨rfl, rfl, rfl, by decide +kernel, rfl, by decide +kernel, by decide +kernel⟩
theorem ok_edited (F : Fs K mg) (C_text_behind : Cal P w K mg base 1 "text_behind" s_text_behind ["text", "edit"] sp_text_behind) (C_need_edit : Cal P w K mg base 4 "need_edit" s_need_edit ["text", "edit"] (sp_need_edit K)) (C_need_text : Cal P w K mg base 3 "need_text" s_need_text ["text"] (sp_need_text K)) : Cal P w K mg base 5 "edited" s_edited ["text", "edit"] (sp_edited K) := by
  obtain ⟨fd, Fn⟩ := F.f_edited
  refine ⟨_, fd, F.g_edited, Fn, Fn.binds (fun _ _ _ _ _ _ us hl => match us, hl with | [_, _], _ => rfl), FnT.ok (k := 4) Fn sc_edited ?len (fun cdv A outer s H E hr => (ls_cons (s_expr (w_cal C_need_text hr (takes_of rfl rfl rfl rfl) (la_cons (w_var 0) la_nil))) (ls_cons (s_expr (w_cal C_need_edit hr (takes_of rfl rfl rfl rfl) (la_cons (w_var 0) (la_cons (w_var 1) la_nil)))) (ls_one (s_ret (w_cal C_text_behind hr (takes_of rfl rfl rfl rfl) (la_cons (w_var 0) (la_cons (w_var 1) la_nil)))))))) ?sem⟩
  case len => intro ws W R E h; unfold sp_edited spE at h; split at h <;> first | rfl | exact h.elim
  case sem =>
    intro ws W R E h
    unfold sp_edited spE at h
    split at h <;> try exact h.elim
    · obtain ⟨hx, hs, h⟩ := h
      rename_i x e
      simp only [wRet, wAnd, wOr, wNot, wAndT, wOrT, wNotT, wCB, wCons, wNil, wVar, wK, wTest, wOp, wChain, wIf, wIfS, wSeq, wAsg, wPar, wPar3, wDrop, wNext, wTup, wLst, wSl, wPart, wNoPart, wRev, wCall, wCallK, wFor, wBM, wEmp, wRaise, wZipL, wYes, wDisp, wPairs, wSub, endsF, startw, setG, setGs, List.map_cons, List.map_nil, List.length_cons, List.length_nil, List.cons_append, List.nil_append, List.append_nil, List.replicate, List.getElem?_cons_zero, List.getElem?_cons_succ, List.set_cons_zero, List.set_cons_succ, Nat.reduceAdd, Nat.reduceSub, Nat.add_sub_cancel, Nat.sub_self, if_true, if_false, Bool.true_eq_false, Bool.false_eq_true, reduceIte, Bool.not_true, Bool.not_false, sp_need_text, sp_need_edit, sp_text_behind]
      refine ⟨⟨rfl, fun y hy => by cases hy; exact hx⟩, ?_⟩
      by_cases ht : textB (.str x) = true
      · rw [if_pos ht] at h ⊢
        refine ⟨hx, hs, ?_⟩
        by_cases he : editB x e = true
        · rw [if_pos he] at h ⊢
          split at h
          · rename_i a b n
            obtain ⟨hab, hn⟩ := editB_facts he
            have hnl : n.length ≤ 100000 := (hs.2 _ rfl (.str n) (by simp)).2 n rfl
            simp only [wRet, wAnd, wOr, wNot, wAndT, wOrT, wNotT, wCB, wCons, wNil, wVar, wK, wTest, wOp, wChain, wIf, wIfS, wSeq, wAsg, wPar, wPar3, wDrop, wNext, wTup, wLst, wSl, wPart, wNoPart, wRev, wCall, wCallK, wFor, wBM, wEmp, wRaise, wZipL, wYes, wDisp, wPairs, wSub, endsF, startw, setG, setGs, List.map_cons, List.map_nil, List.length_cons, List.length_nil, List.cons_append, List.nil_append, List.append_nil, List.replicate, List.getElem?_cons_zero, List.getElem?_cons_succ, List.set_cons_zero, List.set_cons_succ, Nat.reduceAdd, Nat.reduceSub, Nat.add_sub_cancel, Nat.sub_self, if_true, if_false, Bool.true_eq_false, Bool.false_eq_true, reduceIte, Bool.not_true, Bool.not_false]
            exact ⟨hab, hx, hnl, W, .refl W, h⟩
          · exact h.elim
        · rw [if_neg he] at h ⊢
          exact ⟨W, .refl W, h⟩
      · rw [if_neg ht] at h ⊢
        exact ⟨W, .refl W, h⟩
    · obtain ⟨hs, hn, h⟩ := h
      rename_i t _ _
      simp only [wRet, wAnd, wOr, wNot, wAndT, wOrT, wNotT, wCB, wCons, wNil, wVar, wK, wTest, wOp, wChain, wIf, wIfS, wSeq, wAsg, wPar, wPar3, wDrop, wNext, wTup, wLst, wSl, wPart, wNoPart, wRev, wCall, wCallK, wFor, wBM, wEmp, wRaise, wZipL, wYes, wDisp, wPairs, wSub, endsF, startw, setG, setGs, List.map_cons, List.map_nil, List.length_cons, List.length_nil, List.cons_append, List.nil_append, List.append_nil, List.replicate, List.getElem?_cons_zero, List.getElem?_cons_succ, List.set_cons_zero, List.set_cons_succ, Nat.reduceAdd, Nat.reduceSub, Nat.add_sub_cancel, Nat.sub_self, if_true, if_false, Bool.true_eq_false, Bool.false_eq_true, reduceIte, Bool.not_true, Bool.not_false, sp_need_text, sp_need_edit, sp_text_behind]
      have ht : textB t = false := by
        cases t <;> first | rfl | cases hn
      refine ⟨⟨hs, fun y hy => by subst hy; cases hn⟩, ?_⟩
      simp only [ht, Bool.false_eq_true, if_false]
      exact ⟨W, .refl W, h⟩
abbrev N_undo_of : List Str := ["text", "edit", "start", "stop", "new"]
theorem sc_undo_of : FnScope N_undo_of ["text", "edit"] (defScope s_undo_of) := ⟨rfl, rfl, rfl, by decide +kernel, rfl, by decide +kernel, by decide +kernel⟩
theorem ok_undo_of (F : Fs K mg) (C_need_edit : Cal P w K mg base 4 "need_edit" s_need_edit ["text", "edit"] (sp_need_edit K)) (C_need_text : Cal P w K mg base 3 "need_text" s_need_text ["text"] (sp_need_text K)) : Cal P w K mg base 5 "undo_of" s_undo_of ["text", "edit"] (sp_undo_of K) := by
  obtain ⟨fd, Fn⟩ := F.f_undo_of
  refine ⟨_, fd, F.g_undo_of, Fn, Fn.binds (fun _ _ _ _ _ _ us hl => match us, hl with | [_, _], _ => rfl), FnT.ok (k := 4) Fn sc_undo_of ?len (fun cdv A outer s H E hr => (ls_cons (s_expr (w_cal C_need_text hr (takes_of rfl rfl rfl rfl) (la_cons (w_var 0) la_nil))) (ls_cons (s_expr (w_cal C_need_edit hr (takes_of rfl rfl rfl rfl) (la_cons (w_var 0) (la_cons (w_var 1) la_nil)))) (ls_cons (s_asg (w_var 1) (g_tup rfl (gs_cons (g_name 2 sc_undo_of.nd) (gs_cons (g_name 3 sc_undo_of.nd) (gs_cons (g_name 4 sc_undo_of.nd) gs_nil))))) (ls_one (s_ret (w_tup (la_cons (w_var 2) (la_cons (w_op ot_add (w_var 2) (w_callB ct_len F.n_len PyProof.Rows.bootS_len (la_cons (w_var 4) la_nil))) (la_cons (w_slice (w_var 0) (lo_some (w_var 2)) (lo_some (w_var 3))) la_nil)))))))))) ?sem⟩
  case len => intro ws W R E h; unfold sp_undo_of spE at h; split at h <;> first | rfl | exact h.elim
  case sem =>
    intro ws W R E h
    unfold sp_undo_of spE at h
    split at h <;> try exact h.elim
    · obtain ⟨hx, hs, h⟩ := h
      rename_i x e
      by_cases ht : textB (.str x) = true
      · rw [if_pos ht] at h
        by_cases he : editB x e = true
        · rw [if_pos he] at h
          split at h
          · rename_i a b n
            obtain ⟨hab, hn⟩ := editB_facts he
            have hnl : n.length ≤ 100000 := (hs.2 _ rfl (.str n) (by simp)).2 n rfl
            simp only [wRet, wAnd, wOr, wNot, wAndT, wOrT, wNotT, wCB, wCons, wNil, wVar, wK, wTest, wOp, wChain, wIf, wIfS, wSeq, wAsg, wPar, wPar3, wDrop, wNext, wTup, wLst, wSl, wPart, wNoPart, wRev, wCall, wCallK, wFor, wBM, wEmp, wRaise, wZipL, wYes, wDisp, wPairs, wSub, endsF, startw, setG, setGs, List.map_cons, List.map_nil, List.length_cons, List.length_nil, List.cons_append, List.nil_append, List.append_nil, List.replicate, List.getElem?_cons_zero, List.getElem?_cons_succ, List.set_cons_zero, List.set_cons_succ, Nat.reduceAdd, Nat.reduceSub, Nat.add_sub_cancel, Nat.sub_self, if_true, if_false, Bool.true_eq_false, Bool.false_eq_true, reduceIte, Bool.not_true, Bool.not_false, sp_need_text, sp_need_edit, rAddT, rLen, rSlT]
            refine ⟨⟨rfl, fun y hy => by cases hy; exact hx⟩, ?_⟩
            rw [if_pos ht]
            refine ⟨hx, hs, ?_⟩
            rw [if_pos he]
            refine ⟨by rw [sizeLine_eq]; omega, by rw [sizeLine_eq]; omega, by rw [sizeLine_eq]; decide, W, .refl W, h⟩
          · exact h.elim
        · rw [if_neg he] at h
          simp only [wAnd, wOr, wNot, wAndT, wOrT, wNotT, wCB, wCons, wNil, wVar, wK, wTest, wOp, wChain, wIf, wIfS, wSeq, wPar, wPar3, wDrop, wNext, wTup, wLst, wSl, wPart, wNoPart, wRev, wCall, wCallK, wFor, wBM, wEmp, wRaise, wZipL, wYes, wDisp, wPairs, wSub, endsF, startw, List.map_cons, List.map_nil, List.length_cons, List.length_nil, List.cons_append, List.nil_append, List.append_nil, List.replicate, List.getElem?_cons_zero, List.getElem?_cons_succ, List.set_cons_zero, List.set_cons_succ, Nat.reduceAdd, Nat.reduceSub, Nat.add_sub_cancel, Nat.sub_self, if_true, if_false, Bool.true_eq_false, Bool.false_eq_true, reduceIte, Bool.not_true, Bool.not_false, sp_need_text, sp_need_edit]
          refine ⟨⟨rfl, fun y hy => by cases hy; exact hx⟩, ?_⟩
          rw [if_pos ht]
          refine ⟨hx, hs, ?_⟩
          rw [if_neg he]
          exact ⟨W, .refl W, h⟩
      · rw [if_neg ht] at h
        simp only [wAnd, wOr, wNot, wAndT, wOrT, wNotT, wCB, wCons, wNil, wVar, wK, wTest, wOp, wChain, wIf, wIfS, wSeq, wPar, wPar3, wDrop, wNext, wTup, wLst, wSl, wPart, wNoPart, wRev, wCall, wCallK, wFor, wBM, wEmp, wRaise, wZipL, wYes, wDisp, wPairs, wSub, endsF, startw, List.map_cons, List.map_nil, List.length_cons, List.length_nil, List.cons_append, List.nil_append, List.append_nil, List.replicate, List.getElem?_cons_zero, List.getElem?_cons_succ, List.set_cons_zero, List.set_cons_succ, Nat.reduceAdd, Nat.reduceSub, Nat.add_sub_cancel, Nat.sub_self, if_true, if_false, Bool.true_eq_false, Bool.false_eq_true, reduceIte, Bool.not_true, Bool.not_false, sp_need_text, sp_need_edit]
        refine ⟨⟨rfl, fun y hy => by cases hy; exact hx⟩, ?_⟩
        rw [if_neg ht]
        exact ⟨W, .refl W, h⟩
    · obtain ⟨hs, hn, h⟩ := h
      rename_i t _ _
      have ht : textB t = false := by
        cases t <;> first | rfl | cases hn
      simp only [wAnd, wOr, wNot, wAndT, wOrT, wNotT, wCB, wCons, wNil, wVar, wK, wTest, wOp, wChain, wIf, wIfS, wSeq, wPar, wPar3, wDrop, wNext, wTup, wLst, wSl, wPart, wNoPart, wRev, wCall, wCallK, wFor, wBM, wEmp, wRaise, wZipL, wYes, wDisp, wPairs, wSub, endsF, startw, List.map_cons, List.map_nil, List.length_cons, List.length_nil, List.cons_append, List.nil_append, List.append_nil, List.replicate, List.getElem?_cons_zero, List.getElem?_cons_succ, List.set_cons_zero, List.set_cons_succ, Nat.reduceAdd, Nat.reduceSub, Nat.add_sub_cancel, Nat.sub_self, if_true, if_false, Bool.true_eq_false, Bool.false_eq_true, reduceIte, Bool.not_true, Bool.not_false, sp_need_text, sp_need_edit]
      refine ⟨⟨hs, fun y hy => by subst hy; cases hn⟩, ?_⟩
      rw [if_neg (by rw [ht]; decide)]
      exact ⟨W, .refl W, h⟩
abbrev N__law_deck : List Str := ["script", "seed", "cell"]
theorem sc__law_deck : FnScope N__law_deck ["script", "seed"] (defScope s__law_deck) := ⟨rfl, rfl, rfl, by decide +kernel, rfl, by decide +kernel, by decide +kernel⟩
theorem ok__law_deck (F : Fs K mg) : Cal P w K mg base 1 "_law_deck" s__law_deck ["script", "seed"] sp__law_deck := by
  obtain ⟨fd, Fn⟩ := F.f__law_deck
  refine ⟨_, fd, F.g__law_deck, Fn, Fn.binds (fun _ _ _ _ _ _ us hl => match us, hl with | [_, _], _ => rfl), FnT.ok (k := 0) Fn sc__law_deck ?len (fun cdv A outer s H E hr => (ls_cons (s_for (passes_of rfl) rfl (i_seq (w_slice (w_var 0) lo_none (lo_some w_int))) (g_name 2 sc__law_deck.nd) (ls_one (s_set 1 sc__law_deck.nd (w_op ot_mod (w_callTy ct_int F.n_int PyProof.Rows.boot_int (la_cons (w_op ot_add (w_op ot_add (w_op ot_mul (w_var 1) w_int) (w_op ot_mod (w_callTy ct_int F.n_int PyProof.Rows.boot_int (la_cons (w_var 2) la_nil)) w_int)) w_int) la_nil)) w_int)))) (ls_one (s_ret (w_disp (l := [(_, _), (_, _), (_, _)]) (pps_cons w_str (w_rev (w_lc (own := [("cell", 2)]) rfl sc__law_deck.nd (i_seq (w_slice (w_var 0) lo_none (lo_some w_int))) (blkOk_by (own := [("cell", 2)]) (N := N__law_deck) (sc := defScope s__law_deck) (by decide +kernel)) (fun _ _ _ _ _ => (g_name 2 sc__law_deck.nd)) (fun _ _ _ _ _ => lts_nil) (fun _ _ _ _ _ => (w_callTy ct_int F.n_int PyProof.Rows.boot_int (la_cons (w_var 2) la_nil))))) (pps_cons w_str (w_var 1) (pps_cons w_str w_int pps_nil)))))))) ?sem⟩
  case len => intro ws W R E h; unfold sp__law_deck at h; split at h <;> first | rfl | exact h.elim
  case sem =>
    intro ws W R E h
    unfold sp__law_deck at h
    split at h <;> try exact h.elim
    rename_i t s
    obtain ⟨ns, hk, hlen, hq⟩ := h
    have hlen' : (ns.map T.int).length ≤ 63 := by simpa using hlen
    refine wseq_of ?_
    show wFor _ _ _ _ _ _
    refine seqI_slice (n := 63) rfl hk hlen' fun p hp => ?_
    refine forGo_inv T.int (fun r τ W' => W' = updw W p (.lst (ns.map T.int)) ∧ ∃ (s : Int) (x : Option T), τ = [some t, some (.int s), x]) (fun c r τ W1 hI => ?_) (fun τ W1 hI => ?_) ns _ _ ⟨rfl, s, none, rfl⟩
    · obtain ⟨rfl, s, x, rfl⟩ := hI
      refine ⟨updw_same, _, rfl, fun N hN => ?_⟩
      simp only [wRet, wAnd, wOr, wNot, wAndT, wOrT, wNotT, wCB, wCons, wNil, wVar, wK, wTest, wOp, wChain, wIf, wIfS, wSeq, wAsg, wPar, wPar3, wDrop, wNext, wTup, wLst, wSl, wPart, wNoPart, wRev, wCall, wCallK, wFor, wBM, wEmp, wRaise, wZipL, wYes, wDisp, wPairs, wSub, endsF, startw, setG, setGs, List.map_cons, List.map_nil, List.length_cons, List.length_nil, List.cons_append, List.nil_append, List.append_nil, List.replicate, List.getElem?_cons_zero, List.getElem?_cons_succ, List.set_cons_zero, List.set_cons_succ, Nat.reduceAdd, Nat.reduceSub, Nat.add_sub_cancel, Nat.sub_self, if_true, if_false, Bool.true_eq_false, Bool.false_eq_true, reduceIte, Bool.not_true, Bool.not_false, rMulT, rInt, rModT, rAddT]
      refine ⟨cmul_r (by decide) (by decide), by decide, by decide, ?_⟩
      exact hN _ _ ⟨rfl, _, _, rfl⟩
    · obtain ⟨rfl, s, x, rfl⟩ := hI
      refine ⟨updw_same, ?_⟩
      show wDisp _ _ _ _ _
      intro q hq1
      have hqp : q ≠ p := fun z => by rw [z, updw_same] at hq1; cases hq1
      have s1 : Sub W (updw W p (.lst (ns.map T.int))) := Sub.new hp
      have s2 : Sub W (updw (updw W p (.lst (ns.map T.int))) q (.dic [])) := s1.trans (Sub.new hq1)
      have hWq : W q = none := s1.out hq1
      have hdq : updw (updw W p (.lst (ns.map T.int))) q (.dic []) q = some (.dic []) := updw_same
      have tabs : ∀ a o, updw (updw W p (.lst (ns.map T.int))) q (.dic []) a = some o → noTab o = false → W a = some o := fun a o e k => ((Fr.new (d := q) (l := q) hp rfl).trans (Fr.new hq1 rfl)).tab a o e k
      generalize updw (updw W p (.lst (ns.map T.int))) q (.dic []) = W1 at *
      dsimp only [wPairs]
      refine seqI_slice (n := 63) rfl (kindW_sub s2 hk) hlen' fun p2 hp2 => ?_
      have n2 : q ≠ p2 := fun z => by rw [← z, hdq] at hp2; cases hp2
      intro p3 hp3
      have n3 : p3 ≠ p2 := fun z => by rw [z, updw_same] at hp3; cases hp3
      have w3 : W1 p3 = none := by rw [updw_ne n3] at hp3; exact hp3
      have n4 : q ≠ p3 := fun z => by rw [← z, hdq] at w3; cases w3
      refine lcGo_map T.int T.int ns [] (fun c _ => ⟨_, rfl, fun acc R hR => hR⟩) (fun acc => by rw [updw_ne (Ne.symm n3), updw_same]) (by rw [sizeLine_eq]; simp; omega) ?_
      simp only [List.nil_append, itemsT, updw_same, true_and]
      intro p4 hp4
      have n5 : p4 ≠ p3 := fun z => by rw [z, updw_same] at hp4; cases hp4
      rw [updw_ne n5] at hp4
      have n6 : p4 ≠ p2 := fun z => by rw [z, updw_same] at hp4; cases hp4
      rw [updw_ne n6] at hp4
      have n7 : p4 ≠ q := fun z => by rw [z, hdq] at hp4; cases hp4
      simp only [wRet, wAnd, wOr, wNot, wAndT, wOrT, wNotT, wCB, wCons, wNil, wVar, wK, wTest, wOp, wChain, wIf, wIfS, wSeq, wAsg, wPar, wPar3, wDrop, wNext, wTup, wLst, wSl, wPart, wNoPart, wRev, wCall, wCallK, wFor, wBM, wEmp, wRaise, wZipL, wYes, wDisp, wPairs, wSub, endsF, startw, setG, setGs, List.map_cons, List.map_nil, List.length_cons, List.length_nil, List.cons_append, List.nil_append, List.append_nil, List.replicate, List.getElem?_cons_zero, List.getElem?_cons_succ, List.set_cons_zero, List.set_cons_succ, Nat.reduceAdd, Nat.reduceSub, Nat.add_sub_cancel, Nat.sub_self, if_true, if_false, Bool.true_eq_false, Bool.false_eq_true, reduceIte, Bool.not_true, Bool.not_false, updw_ne (Ne.symm n7), updw_ne n4, updw_ne n2, hdq]
      have ek : keysP [(T.str "cells", T.ref p4), (T.str "mixed", T.int s), (T.str "draws", T.int 0)] = some (dkL p4 s 0) := rfl
      have em : mergeT [] (dkL p4 s 0) = dkL p4 s 0 := rfl
      refine ⟨trivial, by decide, ?_⟩
      rw [ek]
      dsimp only
      rw [em]
      refine ⟨_, .refl _, hq q p4 _ hWq (s2.out hp4) (fun a o e => ?_) (fun a o e k => ?_) ⟨ns.reverse, s, 0, updw_same, ?_, by simpa using hlen⟩⟩
      · have e1 := s2 a o e
        have aq : a ≠ q := fun z => by rw [z, hWq] at e; cases e
        rw [updw_ne aq, updw_ne (fun z => by rw [z, hp4] at e1; cases e1), updw_ne (fun z => by rw [z, w3] at e1; cases e1), updw_ne (fun z => by rw [z, hp2] at e1; cases e1)]
        exact e1
      · by_cases z1 : a = q
        · rw [z1, updw_same] at e; cases e; cases k
        · rw [updw_ne z1] at e
          by_cases z2 : a = p4
          · rw [z2, updw_same] at e; cases e; cases k
          · rw [updw_ne z2] at e
            by_cases z3 : a = p3
            · rw [z3, updw_same] at e; cases e; cases k
            · rw [updw_ne z3] at e
              by_cases z4 : a = p2
              · rw [z4, updw_same] at e; cases e; cases k
              · rw [updw_ne z4] at e
                exact tabs a o e k
      · rw [updw_ne n7, updw_same, List.map_reverse]
abbrev N__law_draw : List Str := ["deck", "many", "number", "cell"]
theorem sc__law_draw : FnScope N__law_draw ["deck", "many"] (defScope s__law_draw) := ⟨rfl, rfl, rfl, by decide +kernel, rfl, by decide +kernel, by decide +kernel⟩
theorem ok__law_draw (F : Fs K mg) : Cal P w K mg base 1 "_law_draw" s__law_draw ["deck", "many"] sp__law_draw := by
  obtain ⟨fd, Fn⟩ := F.f__law_draw
  refine ⟨_, fd, F.g__law_draw, Fn, Fn.binds (fun _ _ _ _ _ _ us hl => match us, hl with | [_, _], _ => rfl), FnT.ok (k := 0) Fn sc__law_draw ?len (fun cdv A outer s H E hr => (ls_cons (s_sub (hu_of hr) (w_op ot_add (w_get (hu_of hr) (w_var 0) w_str) w_int) (w_var 0) w_str) (ls_cons (s_set 2 sc__law_draw.nd (w_op ot_add (w_get (hu_of hr) (w_var 0) w_str) (w_op ot_mul w_int (w_get (hu_of hr) (w_var 0) w_str)))) (ls_cons (s_if (lt_lst_ne (hr).units0 (w_get (hu_of hr) (w_var 0) w_str)) (ls_cons (s_set 3 sc__law_draw.nd (w_bm0 PySem.F.plainAttrs_list PySem.F.slot_list_pop PySem.F.type_list_pop mtt_pop (w_get (hu_of hr) (w_var 0) w_str))) (ls_cons (s_if (lt_cmp ot_ge (w_var 3) (w_op ot_pow w_int w_int)) (ls_cons (s_expr (w_bm PySem.F.plainAttrs_list PySem.F.slot_list_append PySem.F.type_list_append mtt_append (w_get (hu_of hr) (w_var 0) w_str) (la_cons (w_op ot_fdiv (w_var 3) (w_callB (ct_max2 rfl) F.n_max PyProof.Rows.boot_max (la_cons w_int (la_cons (w_var 1) la_nil)))) la_nil))) (ls_one (s_ret (w_op ot_mod (w_callTy ct_int F.n_int PyProof.Rows.boot_int (la_cons (w_var 3) la_nil)) (w_var 1))))) ls_nil) (ls_one (s_set 2 sc__law_draw.nd (w_op ot_add (w_var 2) (w_op ot_mod (w_callTy ct_int F.n_int PyProof.Rows.boot_int (la_cons (w_var 3) la_nil)) w_int)))))) ls_nil) (ls_cons (s_set 2 sc__law_draw.nd (w_op ot_mod (w_callTy ct_int F.n_int PyProof.Rows.boot_int (la_cons (w_op ot_add (w_op ot_mul (w_var 2) w_int) w_int) la_nil)) w_int)) (ls_cons (s_set 2 sc__law_draw.nd (w_op ot_mod (w_callTy ct_int F.n_int PyProof.Rows.boot_int (la_cons (w_op ot_add (w_op ot_add (w_op ot_mul (w_var 2) (w_var 2)) (w_op ot_mul w_int (w_get (hu_of hr) (w_var 0) w_str))) w_int) la_nil)) w_int)) (ls_one (s_ret (w_op ot_mod (w_callTy ct_int F.n_int PyProof.Rows.boot_int (la_cons (w_op ot_fdiv (w_op ot_mod (w_callTy ct_int F.n_int PyProof.Rows.boot_int (la_cons (w_op ot_add (w_op ot_mul (w_var 2) w_int) (w_op ot_fdiv (w_var 2) w_int)) la_nil)) w_int) w_int) la_nil)) (w_var 1)))))))))) ?sem⟩
  case len => intro ws W R E h; unfold sp__law_draw at h; split at h <;> first | rfl | exact h.elim
  case sem =>
    intro ws W R E h
    unfold sp__law_draw at h
    split at h <;> try exact h.elim
    rename_i d k
    obtain ⟨l, hD, ⟨hk0, hk1⟩, hq⟩ := h
    have hne := hD.ne
    obtain ⟨cs, m, n, hd, hl, hlen⟩ := hD
    have hdl : l ≠ d := Ne.symm hne
    simp only [wRet, wAnd, wOr, wNot, wAndT, wOrT, wNotT, wCB, wCons, wNil, wVar, wK, wTest, wOp, wChain, wIf, wIfS, wSeq, wAsg, wPar, wPar3, wDrop, wNext, wTup, wLst, wSl, wPart, wNoPart, wRev, wCall, wCallK, wFor, wBM, wEmp, wRaise, wZipL, wYes, wDisp, wPairs, wSub, endsF, startw, setG, setGs, List.map_cons, List.map_nil, List.length_cons, List.length_nil, List.cons_append, List.nil_append, List.append_nil, List.replicate, List.getElem?_cons_zero, List.getElem?_cons_succ, List.set_cons_zero, List.set_cons_succ, Nat.reduceAdd, Nat.reduceSub, Nat.add_sub_cancel, Nat.sub_self, if_true, if_false, Bool.true_eq_false, Bool.false_eq_true, reduceIte, Bool.not_true, Bool.not_false, rGetT, hd, keyT, dk_cells, dk_mixed, dk_draws, dk_put, dk_len, rSetT, rAddT, rMulT, rModT, rFdivT, rInt, rMax2, rPopT, rAppendT, rGeT, rLeT, rPowT, updw_same, updw_updw, kindW, kindT, updw_ne hdl, updw_ne hne, hl]
    refine ⟨by rw [sizeLine_eq]; decide, cmul_l (by decide) (by decide), cs.map T.int, rfl, ?_⟩
    have mk : ∀ (cs' : List Int), cs'.length ≤ 63 → Fr d l W (updw (updw W d (.dic (dkL l m (n + 1)))) l (.lst (cs'.map T.int))) ∧ Deck d l (updw (updw W d (.dic (dkL l m (n + 1)))) l (.lst (cs'.map T.int))) := fun cs' h => ⟨Fr.trans (Fr.updD rfl) (Fr.updL rfl), cs', m, n + 1, by rw [updw_ne hne, updw_same], by rw [updw_same], h⟩
    have fin : ∀ (x : Int) (cs' : List Int), cs'.length ≤ 63 → ∃ W0, Sub W0 (updw (updw W d (.dic (dkL l m (n + 1)))) l (.lst (cs'.map T.int))) ∧ R (T.int (x % k)) W0 := fun x cs' h => ⟨_, .refl _, hq _ _ (Int.emod_nonneg x (by omega)) (Int.emod_lt_of_pos x hk0) (mk cs' h).1 (mk cs' h).2⟩
    rcases List.eq_nil_or_concat cs with rfl | ⟨cs0, c, e⟩
    · simp only [List.map_nil, List.length_nil, decide_true, Bool.true_bne, Bool.not_true, Bool.false_eq_true, if_false]
      refine ⟨cmul_r (by decide) (by decide), by decide, cmul_mod (by decide) (by decide), cmul_l (by decide) (by decide), by decide, cmul_mod (by decide) (by decide), by decide, by decide, by decide, hk0, ?_⟩
      refine ⟨_, .refl _, hq _ _ (Int.emod_nonneg _ (by omega)) (Int.emod_lt_of_pos _ hk0) (Fr.updD rfl) ⟨[], m, n + 1, by rw [updw_same], by rw [updw_ne hdl, hl], by decide⟩⟩
    · have e : cs = cs0 ++ [c] := by simpa using e
      subst e
      have hl0 : cs0.length + 1 ≤ 63 := by simpa using hlen
      have e1 : (cs0 ++ [c]).map T.int = cs0.map T.int ++ [T.int c] := by simp
      have e2 : decide ((cs0.map T.int ++ [T.int c]).length = 0) = false := by simp
      have ep : (10 : Int) ^ Int.toNat 18 = 1000000000000000000 := by decide
      have e3 : (cs0.map T.int ++ [T.int c]).dropLast = cs0.map T.int := List.dropLast_concat
      simp only [e1, e2, pop_get, Bool.true_bne, Bool.not_false, if_true, true_and, e3, ep]
      refine ⟨⟨by decide, by decide, by decide⟩, ?_⟩
      by_cases hc : (1000000000000000000 : Int) ≤ c
      · simp only [hc, decide_true, if_true]
        refine ⟨⟨by omega, by omega⟩, by rw [List.length_map, sizeLine_eq]; omega, hk0, ?_⟩
        have e4 : cs0.map T.int ++ [T.int (c / max 2 k)] = (cs0 ++ [c / max 2 k]).map T.int := by simp
        rw [e4]
        exact fin _ _ (by simp; omega)
      · simp only [hc, decide_false, Bool.false_eq_true, if_false]
        refine ⟨by decide, cmul_r (by decide) (by decide), by decide, cmul_mod (by decide) (by decide), cmul_l (by decide) (by decide), by decide, cmul_mod (by decide) (by decide), by decide, by decide, by decide, hk0, ?_⟩
        exact fin _ cs0 (by omega)
abbrev N__law_pick : List Str := ["deck", "some"]
theorem sc__law_pick : FnScope N__law_pick ["deck", "some"] (defScope s__law_pick) := ⟨rfl, rfl, rfl, by decide +kernel, rfl, by decide +kernel, by decide +kernel⟩
theorem ok__law_pick (F : Fs K mg) (C__law_draw : Cal P w K mg base 1 "_law_draw" s__law_draw ["deck", "many"] sp__law_draw) : Cal P w K mg base 2 "_law_pick" s__law_pick ["deck", "some"] sp__law_pick := by
  obtain ⟨fd, Fn⟩ := F.f__law_pick
  refine ⟨_, fd, F.g__law_pick, Fn, Fn.binds (fun _ _ _ _ _ _ us hl => match us, hl with | [_, _], _ => rfl), FnT.ok (k := 1) Fn sc__law_pick ?len (fun cdv A outer s H E hr => (ls_one (s_ret (w_ix (w_var 1) (w_cal C__law_draw hr (takes_of rfl rfl rfl rfl) (la_cons (w_var 0) (la_cons (w_callB ct_len F.n_len PyProof.Rows.bootS_len (la_cons (w_var 1) la_nil)) la_nil))))))) ?sem⟩
  case len => intro ws W R E h; unfold sp__law_pick at h; split at h <;> first | rfl | exact h.elim
  case sem =>
    intro ws W R E h
    unfold sp__law_pick at h
    split at h <;> try exact h.elim
    rename_i d t
    obtain ⟨l, xs, hD, hi, ha, ⟨h0, h1⟩, hq⟩ := h
    simp only [wRet, wAnd, wOr, wNot, wAndT, wOrT, wNotT, wCB, wCons, wNil, wVar, wK, wTest, wOp, wChain, wIf, wIfS, wSeq, wAsg, wPar, wPar3, wDrop, wNext, wTup, wLst, wSl, wPart, wNoPart, wRev, wCall, wCallK, wFor, wBM, wEmp, wRaise, wZipL, wYes, wDisp, wPairs, wSub, endsF, startw, setG, setGs, List.map_cons, List.map_nil, List.length_cons, List.length_nil, List.cons_append, List.nil_append, List.append_nil, List.replicate, List.getElem?_cons_zero, List.getElem?_cons_succ, List.set_cons_zero, List.set_cons_succ, Nat.reduceAdd, Nat.reduceSub, Nat.add_sub_cancel, Nat.sub_self, if_true, if_false, Bool.true_eq_false, Bool.false_eq_true, reduceIte, Bool.not_true, Bool.not_false, sp__law_draw, rLen_items hi]
    refine ⟨l, hD, ⟨by omega, by omega⟩, fun r W' r0 r1 f hD' => ?_⟩
    have hi' := itemsT_fr f hi ha
    have hr : r.toNat < xs.length := by omega
    rw [rIx_items hi' r0 (List.getElem?_eq_getElem hr)]
    exact ⟨W', .refl W', hq _ (List.getElem_mem hr) W' f hD'⟩
abbrev N__law_same : List Str := ["told", "due", "todo", "one", "other"]
theorem sc__law_same : FnScope N__law_same ["told", "due"] (defScope s__law_same) := ⟨rfl, rfl, rfl, by decide +kernel, rfl, by decide +kernel, by decide +kernel⟩
theorem ok__law_same (F : Fs K mg) : Cal P w K mg base 1 "_law_same" s__law_same ["told", "due"] sp__law_same := by
  obtain ⟨fd, Fn⟩ := F.f__law_same
  refine ⟨_, fd, F.g__law_same, Fn, Fn.binds (fun _ _ _ _ _ _ us hl => match us, hl with | [_, _], _ => rfl), FnT.ok (k := 0) Fn sc__law_same ?len (fun cdv A outer s H E hr => (ls_cons (s_set 2 sc__law_same.nd (w_lst (la_cons (w_tup (la_cons (w_var 0) (la_cons (w_var 1) la_nil))) la_nil))) (ls_cons (s_while (passes_of rfl) (lt_lst_ne (hr).units0 (w_var 2)) (ls_cons (s_asg (w_bm0 PySem.F.plainAttrs_list PySem.F.slot_list_pop PySem.F.type_list_pop mtt_pop (w_var 2)) (g_tup rfl (gs_cons (g_name 3 sc__law_same.nd) (gs_cons (g_name 4 sc__law_same.nd) gs_nil)))) (ls_one (s_if (lt_w (lw_or (lt_val (w_callB ct_isi F.n_isinstance PyProof.Rows.boot_isinstance (la_cons (w_var 4) (la_cons (w_ty F.n_tuple PyProof.Rows.boot_tuple) la_nil)))) (lw_or1 (lt_val (w_callB ct_isi F.n_isinstance PyProof.Rows.boot_isinstance (la_cons (w_var 4) (la_cons (w_ty F.n_list PyProof.Rows.boot_list) la_nil))))))) (ls_cons (s_if (lt_w (lw_or (lt_cmp (ot_ne (hr).units) (w_callB ct_isi F.n_isinstance PyProof.Rows.boot_isinstance (la_cons (w_var 3) (la_cons (w_ty F.n_tuple PyProof.Rows.boot_tuple) la_nil))) (w_callB ct_isi F.n_isinstance PyProof.Rows.boot_isinstance (la_cons (w_var 4) (la_cons (w_ty F.n_tuple PyProof.Rows.boot_tuple) la_nil)))) (lw_or1 (lt_cmp (ot_ne (hr).units) (w_callB ct_isi F.n_isinstance PyProof.Rows.boot_isinstance (la_cons (w_var 3) (la_cons (w_ty F.n_list PyProof.Rows.boot_list) la_nil))) (w_callB ct_isi F.n_isinstance PyProof.Rows.boot_isinstance (la_cons (w_var 4) (la_cons (w_ty F.n_list PyProof.Rows.boot_list) la_nil))))))) (ls_one (s_ret w_bl)) ls_nil) (ls_cons (s_if (lt_cmp (ot_ne (hr).units) (w_callB ct_len F.n_len PyProof.Rows.bootS_len (la_cons (w_var 3) la_nil)) (w_callB ct_len F.n_len PyProof.Rows.bootS_len (la_cons (w_var 4) la_nil))) (ls_one (s_ret w_bl)) ls_nil) (ls_one (s_expr (w_bm PySem.F.plainAttrs_list PySem.F.slot_list_extend PySem.F.type_list_extend mtt_extend (w_var 2) (la_cons (w_zipl rfl (la_cons (w_var 3) (la_cons (w_var 4) la_nil)) (hm := F.n_zip) (hm' := F.n_list)) la_nil)))))) (ls_one (s_if (lt_w (lw_or (lt_cmp (ot_ne (hr).units) (w_callB ct_isi F.n_isinstance PyProof.Rows.boot_isinstance (la_cons (w_var 3) (la_cons (w_ty F.n_bool PyProof.Rows.boot_bool) la_nil))) (w_callB ct_isi F.n_isinstance PyProof.Rows.boot_isinstance (la_cons (w_var 4) (la_cons (w_ty F.n_bool PyProof.Rows.boot_bool) la_nil)))) (lw_or1 (lt_cmp (ot_ne (hr).units) (w_callB ct_isi F.n_isinstance PyProof.Rows.boot_isinstance (la_cons (w_var 3) (la_cons (w_ty F.n_int PyProof.Rows.boot_int) la_nil))) (w_callB ct_isi F.n_isinstance PyProof.Rows.boot_isinstance (la_cons (w_var 4) (la_cons (w_ty F.n_int PyProof.Rows.boot_int) la_nil))))))) (ls_one (s_ret w_bl)) (ls_one (s_if (lt_w (lw_or (lt_cmp (ot_ne (hr).units) (w_callB ct_isi F.n_isinstance PyProof.Rows.boot_isinstance (la_cons (w_var 3) (la_cons (w_ty F.n_str PyProof.Rows.boot_str) la_nil))) (w_callB ct_isi F.n_isinstance PyProof.Rows.boot_isinstance (la_cons (w_var 4) (la_cons (w_ty F.n_str PyProof.Rows.boot_str) la_nil)))) (lw_or1 (lt_cmp (ot_ne (hr).units) (w_var 3) (w_var 4))))) (ls_one (s_ret w_bl)) ls_nil)))))))) (ls_one (s_ret w_bl))))) ?sem⟩
  case len => intro ws W R E h; unfold sp__law_same at h; split at h <;> first | rfl | exact h.elim
  case sem =>
    intro ws W R E h
    unfold sp__law_same at h
    split at h <;> try exact h.elim
    rename_i t u
    obtain ⟨n, hs, hn, hq⟩ := h
    simp only [wRet, wAnd, wOr, wNot, wAndT, wOrT, wNotT, wCB, wCons, wNil, wVar, wK, wTest, wOp, wChain, wIf, wIfS, wSeq, wAsg, wPar, wPar3, wDrop, wNext, wTup, wLst, wSl, wPart, wNoPart, wRev, wCall, wCallK, wFor, wBM, wEmp, wRaise, wZipL, wYes, wDisp, wPairs, wSub, endsF, startw, setG, setGs, List.map_cons, List.map_nil, List.length_cons, List.length_nil, List.cons_append, List.nil_append, List.append_nil, List.replicate, List.getElem?_cons_zero, List.getElem?_cons_succ, List.set_cons_zero, List.set_cons_succ, Nat.reduceAdd, Nat.reduceSub, Nat.add_sub_cancel, Nat.sub_self, if_true, if_false, Bool.true_eq_false, Bool.false_eq_true, reduceIte, Bool.not_true, Bool.not_false]
    refine ⟨by rw [sizeLine_eq]; decide, by rw [sizeLine_eq]; decide, fun p hp => ⟨n + 1, ?_⟩⟩
    have hT : Todo W n [T.tup [t, u]] := by have := Todo.cons hs Todo.nil; simpa using this
    refine (?key : ∀ (fuel n : Nat) (ps : List T) (W1 : Hw) (x y : Option T), n ≤ 100000 → Todo W n ps → Sub W W1 → W1 p = some (.lst ps) → n < fuel → wWhileN _ _ fuel _ [some t, some u, some (T.ref p), x, y] W1) (n + 1) n [T.tup [t, u]] _ none none hn hT (Sub.new hp) updw_same (Nat.lt_succ_self n)
    clear hT hs hn n
    intro fuel
    induction fuel with
    | zero => intro n ps W1 x y hn hT hS hP hlt; omega
    | succ fuel ih =>
      intro n ps W1 x y hn hT hS hP hlt
      dsimp only [wWhileN, wTest, wEmp, wVar, List.getElem?_cons_zero, List.getElem?_cons_succ]
      refine ⟨ps, kindW_lst hP, ?_⟩
      rcases List.eq_nil_or_concat ps with rfl | ⟨qs, pr, e⟩
      · exact ⟨W, hS, hq⟩
      · have e : ps = qs ++ [pr] := by simpa using e
        subst e
        obtain ⟨k, j, a, b, rfl, hab, hqs, rfl⟩ := hT.snoc
        have e2 : (true != decide ((qs ++ [T.tup [a, b]]).length = 0)) = true := by simp
        rw [if_pos e2]
        refine wseq_of (asg_pop (x := .tup [a, b]) rfl hP rfl ?_)
        dsimp only [wRet, wAnd, wOr, wNot, wAndT, wOrT, wNotT, wCB, wCons, wNil, wVar, wK, wTest, wOp, wChain, wIf, wIfS, wSeq, wAsg, wPar, wPar3, wDrop, wNext, wTup, wLst, wSl, wPart, wNoPart, wRev, wCall, wCallK, wFor, wBM, wEmp, wRaise, wZipL, wYes, wDisp, wPairs, wSub, endsF, startw, setG, setGs, List.map_cons, List.map_nil, List.length_cons, List.length_nil, List.cons_append, List.nil_append, List.replicate, List.getElem?_cons_zero, List.getElem?_cons_succ, List.set_cons_zero, List.set_cons_succ]
        have hqj := hqs.le
        have hk := hab.pos
        have hpne : ∀ c o, W c = some o → c ≠ p := fun c o e z => by rw [z, hp] at e; cases e
        have hS2 : ∀ (ls : List T), Sub W (updw W1 p (.lst ls)) := fun ls c o e => by rw [updw_ne (hpne c o e)]; exact hS c o e
        have tya := (hab.sub (hS2 qs)).ty.1
        have tyb := (hab.sub (hS2 qs)).ty.2
        have ff : ∀ b : Bool, (true != decide (b = b)) = false := fun b => by simp
        have go : ∀ x y, _ := fun x y => ih j qs (updw W1 p (.lst qs)) x y (by omega) hqs (hS2 qs) updw_same (by omega)
        cases hab with
        | non =>
          simp only [rIsi_tup tyb, rIsi_list tyb, rIsi_tup tya, rIsi_list tya, rIsi_bool tya, rIsi_bool tyb, rIsi_int tya, rIsi_int tyb, rIsi_str tya, rIsi_str tyb, isTupT, isLstT, isBlT, isIntT, isStrT, rEqT, ff, Bool.false_eq_true, if_false, if_true, bne_self_eq_false]
          exact go _ _
        | bl b =>
          simp only [rIsi_tup tyb, rIsi_list tyb, rIsi_tup tya, rIsi_list tya, rIsi_bool tya, rIsi_bool tyb, rIsi_int tya, rIsi_int tyb, rIsi_str tya, rIsi_str tyb, isTupT, isLstT, isBlT, isIntT, isStrT, rEqT, ff, Bool.false_eq_true, if_false, if_true, bne_self_eq_false]
          exact go _ _
        | int i =>
          simp only [rIsi_tup tyb, rIsi_list tyb, rIsi_tup tya, rIsi_list tya, rIsi_bool tya, rIsi_bool tyb, rIsi_int tya, rIsi_int tyb, rIsi_str tya, rIsi_str tyb, isTupT, isLstT, isBlT, isIntT, isStrT, rEqT, ff, Bool.false_eq_true, if_false, if_true, bne_self_eq_false, decide_true]
          exact go _ _
        | str z =>
          simp only [rIsi_tup tyb, rIsi_list tyb, rIsi_tup tya, rIsi_list tya, rIsi_bool tya, rIsi_bool tyb, rIsi_int tya, rIsi_int tyb, rIsi_str tya, rIsi_str tyb, isTupT, isLstT, isBlT, isIntT, isStrT, rEqT, ff, Bool.false_eq_true, if_false, if_true, bne_self_eq_false, decide_true]
          exact go _ _
        | tup hts =>
          rename_i k ts us
          have hlen : ts.length = us.length := hts.len
          have hle := hts.le
          simp only [rIsi_tup tyb, rIsi_list tyb, rIsi_tup tya, rIsi_list tya, isTupT, isLstT, rEqT, ff, Bool.false_eq_true, if_false, if_true, rLen, lenT, hlen, bne_self_eq_false, decide_true, updw_same, true_and]
          refine ⟨by simp only [kindT, updw_same], _, _, ts, us, rfl, rfl, rfl, hlen, fun q hq2 => ?_⟩
          have hqp : q ≠ p := fun z => by rw [z, updw_same] at hq2; cases hq2
          have hWq : W q = none := (hS2 qs).out hq2
          simp only [rExtendT, updw_ne (Ne.symm hqp), updw_same]
          refine ⟨by rw [pairsT_len, sizeLine_eq]; omega, ?_⟩
          refine ih (j + k) _ _ _ _ (by omega) (hqs.app (Todo.pairs hts)) (fun c o e => ?_) updw_same (by omega)
          rw [updw_ne (hpne c o e), updw_ne (fun z => by rw [z, hWq] at e; cases e)]
          exact hS2 qs c o e
        | lst h1 h2 hts =>
          rename_i k a b ts us
          have hlen : ts.length = us.length := hts.len
          have hle := hts.le
          have h1' := hS2 qs _ _ h1
          have h2' := hS2 qs _ _ h2
          simp only [rIsi_tup tyb, rIsi_list tyb, rIsi_tup tya, rIsi_list tya, isTupT, isLstT, rEqT, ff, Bool.false_eq_true, if_false, if_true, rLen, lenT, h1', h2', hlen, bne_self_eq_false, decide_true, updw_same, true_and]
          refine ⟨by simp only [kindT, updw_same], _, _, ts, us, rfl, by simp only [itemsT, h1'], by simp only [itemsT, h2'], hlen, fun q hq2 => ?_⟩
          have hqp : q ≠ p := fun z => by rw [z, updw_same] at hq2; cases hq2
          have hWq : W q = none := (hS2 qs).out hq2
          simp only [rExtendT, updw_ne (Ne.symm hqp), updw_same]
          refine ⟨by rw [pairsT_len, sizeLine_eq]; omega, ?_⟩
          refine ih (j + k) _ _ _ _ (by omega) (hqs.app (Todo.pairs hts)) (fun c o e => ?_) updw_same (by omega)
          rw [updw_ne (hpne c o e), updw_ne (fun z => by rw [z, hWq] at e; cases e)]
          exact hS2 qs c o e
abbrev N__law_some_text : List Str := ["deck", "most", "k"]
theorem sc__law_some_text : FnScope N__law_some_text ["deck", "most"] (defScope s__law_some_text) := ⟨rfl, rfl, rfl, by decide +kernel, rfl, by decide +kernel, by decide +kernel⟩
theorem ok__law_some_text (F : Fs K mg) (C__law_draw : Cal P w K mg base 1 "_law_draw" s__law_draw ["deck", "many"] sp__law_draw) (C__law_pick : Cal P w K mg base 2 "_law_pick" s__law_pick ["deck", "some"] sp__law_pick) : Cal P w K mg base 3 "_law_some_text" s__law_some_text ["deck", "most"] sp__law_some_text := by
  obtain ⟨fd, Fn⟩ := F.f__law_some_text
  refine ⟨_, fd, F.g__law_some_text, Fn, Fn.binds (fun _ _ _ _ _ _ us hl => match us, hl with | [_, _], _ => rfl), FnT.ok (k := 2) Fn sc__law_some_text ?len (fun cdv A outer s H E hr => (ls_one (s_ret (w_bm PySem.F.plainAttrs_str PySem.F.slot_str_join PySem.F.type_str_join mtt_join w_str (la_cons (w_lc (own := [("k", 2)]) rfl sc__law_some_text.nd (i_range1 F.n_range (la_cons (w_cal C__law_draw hr (takes_of rfl rfl rfl rfl) (la_cons (w_var 0) (la_cons (w_var 1) la_nil))) la_nil)) (blkOk_by (own := [("k", 2)]) (N := N__law_some_text) (sc := defScope s__law_some_text) (by decide +kernel)) (fun _ _ _ _ _ => (g_name 2 sc__law_some_text.nd)) (fun _ _ _ _ _ => lts_nil) (fun _ _ _ _ _ => (w_cal C__law_pick hr LamX.takes0 (la_cons (w_var 0) (la_cons (w_lst (la_cons w_str (la_cons w_str (la_cons w_str (la_cons w_str (la_cons w_str (la_cons w_str (la_cons w_str (la_cons w_str (la_cons w_str (la_cons w_str (la_cons w_str la_nil)))))))))))) la_nil))))) la_nil))))) ?sem⟩
  case len => intro ws W R E h; unfold sp__law_some_text at h; split at h <;> first | rfl | exact h.elim
  case sem =>
    intro ws W R E h
    unfold sp__law_some_text at h
    split at h <;> try exact h.elim
    rename_i d most
    obtain ⟨l, hD, ⟨h0, h1⟩, hq⟩ := h
    dsimp only [wRet, wAnd, wOr, wNot, wAndT, wOrT, wNotT, wCB, wCons, wNil, wVar, wK, wTest, wOp, wChain, wIf, wIfS, wSeq, wAsg, wPar, wPar3, wDrop, wNext, wTup, wLst, wSl, wPart, wNoPart, wRev, wCall, wCallK, wFor, wBM, wEmp, wRaise, wZipL, wYes, wDisp, wPairs, wSub, endsF, startw, setG, setGs, List.map_cons, List.map_nil, List.length_cons, List.length_nil, List.cons_append, List.nil_append, List.replicate, List.getElem?_cons_zero, List.getElem?_cons_succ, List.set_cons_zero, List.set_cons_succ, wLc, wRng1]
    dsimp only [sp__law_draw]
    refine ⟨rfl, l, hD, ⟨h0, by omega⟩, fun r W1 r0 r1 f1 D1 => ?_⟩
    refine ⟨⟨by have e : (2 : Int) ^ 62 = 4611686018427387904 := by decide
                omega, by have e : (2 : Int) ^ 62 = 4611686018427387904 := by decide
                          omega⟩, fun p hp => ?_⟩
    have hoff := D1.off hp
    unfold rangeT
    refine lcGo_inv (fun i : Nat => T.int (0 + (i : Int))) (fun acc W2 => Fr d l W W2 ∧ Deck d l W2 ∧ ∃ ys : List Str, acc = ys.map T.str ∧ ∀ y ∈ ys, okP y) (List.range (r - 0).toNat) [] (updw W1 p (.lst [])) (fun i _ => ⟨_, rfl, fun acc W2 R2 hI hp2 hR => ?_⟩) (fun _ _ _ _ => trivial) (by rw [sizeLine_eq]; simp; omega) ⟨f1.trans (Fr.new hp rfl), D1.new hp, [], rfl, fun y hy => by cases hy⟩ updw_same (fun acc' W' hl hI hp' => ?_)
    · obtain ⟨f2, D2, ys, rfl, hys⟩ := hI
      dsimp only [wRet, wAnd, wOr, wNot, wAndT, wOrT, wNotT, wCB, wCons, wNil, wVar, wK, wTest, wOp, wChain, wIf, wIfS, wSeq, wAsg, wPar, wPar3, wDrop, wNext, wTup, wLst, wSl, wPart, wNoPart, wRev, wCall, wCallK, wFor, wBM, wEmp, wRaise, wZipL, wYes, wDisp, wPairs, wSub, endsF, startw, setG, setGs, List.map_cons, List.map_nil, List.length_cons, List.length_nil, List.cons_append, List.nil_append, List.replicate, List.getElem?_cons_zero, List.getElem?_cons_succ, List.set_cons_zero, List.set_cons_succ]
      refine ⟨by rw [sizeLine_eq]; decide, fun q hq2 => ?_⟩
      have oq := D2.off hq2
      have nqp : p ≠ q := fun z => by rw [← z, hp2] at hq2; cases hq2
      dsimp only [sp__law_pick]
      refine ⟨l, _, D2.new hq2, itemsT_new, fun a e => by cases e; exact oq, ⟨by decide, by decide⟩, fun x hx W3 f3 D3 => ?_⟩
      obtain ⟨y, rfl, hy⟩ := pieces_ok x hx
      have hp3 : W3 p = some (.lst (ys.map T.str)) := f3.old p _ hoff.1 hoff.2 (by rw [updw_ne nqp]; exact hp2)
      refine hR _ W3 hp3 ⟨((f2.trans (Fr.new hq2 rfl)).trans f3).upd (f1.out hp hoff.1 hoff.2) rfl, D3.upd hoff.1 hoff.2, ys ++ [y], by simp, fun z hz => ?_⟩
      · rcases List.mem_append.mp hz with h | h
        · exact hys z h
        · rw [List.mem_singleton.mp h]; exact hy
    · obtain ⟨f2, D2, ys, rfl, hys⟩ := hI
      simp only [rJoinT, itemsT, hp', strsT_map]
      have hl' : ys.length = r.toNat := by simpa using hl
      have e0 : (("" : Str)).length = 0 := by decide +kernel
      refine ⟨?_, W', .refl _, hq _ W' ?_ ?_ f2 D2⟩
      · have := sum_le ys hys
        rw [e0]; omega
      · rw [TL.join_eq]; exact (join_okP ys hys).1
      · rw [TL.join_eq]
        have := (join_okP ys hys).2
        omega
abbrev N__law_an_edit : List Str := ["deck", "text", "way", "n", "one", "other", "start", "stop"]
theorem sc__law_an_edit : FnScope N__law_an_edit ["deck", "text"] (defScope s__law_an_edit) := ⟨rfl, rfl, rfl, by decide +kernel, rfl, by decide +kernel, by decide +kernel⟩
theorem ok__law_an_edit (F : Fs K mg) (C__law_some_text : Cal P w K mg base 3 "_law_some_text" s__law_some_text ["deck", "most"] sp__law_some_text) (C__law_pick : Cal P w K mg base 2 "_law_pick" s__law_pick ["deck", "some"] sp__law_pick) (C__law_draw : Cal P w K mg base 1 "_law_draw" s__law_draw ["deck", "many"] sp__law_draw) : Cal P w K mg base 4 "_law_an_edit" s__law_an_edit ["deck", "text"] sp__law_an_edit := by
  obtain ⟨fd, Fn⟩ := F.f__law_an_edit
  refine ⟨_, fd, F.g__law_an_edit, Fn, Fn.binds (fun _ _ _ _ _ _ us hl => match us, hl with | [_, _], _ => rfl), FnT.ok (k := 3) Fn sc__law_an_edit ?len (fun cdv A outer s H E hr => (ls_cons (s_par 2 3 sc__law_an_edit.nd (la_cons (w_cal C__law_draw hr (takes_of rfl rfl rfl rfl) (la_cons (w_var 0) (la_cons w_int la_nil))) (la_cons (w_callB ct_len F.n_len PyProof.Rows.bootS_len (la_cons (w_var 1) la_nil)) la_nil))) (ls_cons (s_par 4 5 sc__law_an_edit.nd (la_cons (w_cal C__law_draw hr (takes_of rfl rfl rfl rfl) (la_cons (w_var 0) (la_cons (w_op ot_add (w_var 3) w_int) la_nil))) (la_cons (w_cal C__law_draw hr (takes_of rfl rfl rfl rfl) (la_cons (w_var 0) (la_cons (w_op ot_add (w_var 3) w_int) la_nil))) la_nil))) (ls_cons (s_asg (w_cal C__law_pick hr (takes_of rfl rfl rfl rfl) (la_cons (w_var 0) (la_cons (w_lst (la_cons (w_tup (la_cons (w_callB (ct_min2 rfl) F.n_min PyProof.Rows.boot_min (la_cons (w_var 4) (la_cons (w_var 5) la_nil))) (la_cons (w_callB (ct_max2 rfl) F.n_max PyProof.Rows.boot_max (la_cons (w_var 4) (la_cons (w_var 5) la_nil))) la_nil))) (la_cons (w_tup (la_cons (w_var 4) (la_cons (w_var 4) la_nil))) (la_cons (w_tup (la_cons w_int (la_cons (w_var 5) la_nil))) (la_cons (w_tup (la_cons (w_var 4) (la_cons (w_var 3) la_nil))) (la_cons (w_tup (la_cons w_int (la_cons (w_var 3) la_nil))) (la_cons (w_tup (la_cons (w_var 3) (la_cons (w_var 3) la_nil))) la_nil))))))) la_nil))) (g_tup rfl (gs_cons (g_name 6 sc__law_an_edit.nd) (gs_cons (g_name 7 sc__law_an_edit.nd) gs_nil)))) (ls_one (s_ret (w_tup (la_cons (w_var 6) (la_cons (w_var 7) (la_cons (w_ife (lt_cmp (ot_eq (hr).units) (w_var 2) w_int) w_str (w_ife (lt_cmp (ot_eq (hr).units) (w_var 2) w_int) (w_slice (w_var 1) (lo_some (w_var 6)) (lo_some (w_var 7))) (w_cal C__law_some_text hr (takes_of rfl rfl rfl rfl) (la_cons (w_var 0) (la_cons w_int la_nil))))) la_nil)))))))))) ?sem⟩
  case len => intro ws W R E h; unfold sp__law_an_edit at h; split at h <;> first | rfl | exact h.elim
  case sem =>
    intro ws W R E h
    unfold sp__law_an_edit at h
    split at h <;> try exact h.elim
    rename_i d x
    obtain ⟨l, hD, hx, hxl, hq⟩ := h
    rw [show startw N__law_an_edit [T.ref d, T.str x] = [some (.ref d), some (.str x), none, none, none, none, none, none] from rfl]
    refine seq_gen fun N1 hN1 => ?_
    dsimp only [wPar, wCons, wCall, wVar, wK, wNil, wCB, List.getElem?_cons_zero, List.getElem?_cons_succ, List.set_cons_zero, List.set_cons_succ, sp__law_draw, rLen]
    refine ⟨l, hD, ⟨by decide, by decide⟩, fun way W1 w0 w1 f1 D1 => ?_⟩
    refine ⟨by rw [sizeLine_eq]; omega, ?_⟩
    rw [hN1]
    refine seq_gen fun N2 hN2 => ?_
    dsimp only [wPar, wCons, wCall, wVar, wK, wNil, wCB, wOp, List.getElem?_cons_zero, List.getElem?_cons_succ, List.set_cons_zero, List.set_cons_succ, sp__law_draw, rAddT]
    refine ⟨l, D1, ⟨by omega, by omega⟩, fun one W2 o0 o1 f2 D2 => ?_⟩
    refine ⟨l, D2, ⟨by omega, by omega⟩, fun oth W3 t0 t1 f3 D3 => ?_⟩
    rw [hN2]
    refine seq_gen fun N3 hN3 => ?_
    dsimp only [wAsg, wLst, wTup, wCons, wCall, wVar, wK, wNil, wCB, wOp, List.getElem?_cons_zero, List.getElem?_cons_succ, List.set_cons_zero, List.set_cons_succ, sp__law_pick, rMin2, rMax2]
    have z2 : ∀ (u v : T), [u, v].length ≤ sizeLine := fun u v => by rw [sizeLine_eq]; simp
    refine ⟨z2 _ _, z2 _ _, z2 _ _, z2 _ _, z2 _ _, z2 _ _, by rw [sizeLine_eq]; simp, fun p hp => ?_⟩
    have op := D3.off hp
    refine ⟨l, _, D3.new hp, itemsT_new, fun a e => by cases e; exact op, ⟨by simp, by simp⟩, fun y hy W4 f4 D4 => ?_⟩
    obtain ⟨a, b, rfl, hab⟩ : ∃ a b : Int, y = .tup [.int a, .int b] ∧ 0 ≤ a ∧ a ≤ b ∧ b ≤ x.length := by
      simp only [List.mem_cons, List.not_mem_nil, or_false] at hy
      rcases hy with h | h | h | h | h | h <;> exact ⟨_, _, h, by omega, by omega, by omega⟩
    have f5 : Fr d l W W4 := ((f1.trans f2).trans f3).trans ((Fr.new hp rfl).trans f4)
    show N3 _ _
    rw [hN3]
    have z3 : ∀ (u v w : T), [u, v, w].length ≤ sizeLine := fun u v w => by rw [sizeLine_eq]; simp
    dsimp only [wRet, wTup, wIf, wTest, wOp, wCons, wCall, wVar, wK, wNil, wSl, wPart, endsF, List.getElem?_cons_zero, List.getElem?_cons_succ, List.set_cons_zero, List.set_cons_succ, rEqT, sp__law_some_text, rSlT]
    simp only [Bool.false_bne]
    by_cases e0 : way = 0
    · simp only [e0, decide_true, if_true]
      refine ⟨z3 _ _ _, W4, .refl _, hq a b _ W4 hab ?_ ?_ f5 D4⟩
      · decide +kernel
      · have e : (("" : Str)).length = 0 := by decide +kernel
        rw [e]; omega
    · by_cases e1 : way = 1
      · simp only [e1, decide_true, if_true]
        rw [if_neg (by decide)]
        obtain ⟨c1, c2⟩ := cut_mid_ok hab.1 hab.2.1 hab.2.2 hx
        refine ⟨by rw [sizeLine_eq]; omega, z3 _ _ _, W4, .refl _, hq a b _ W4 hab c1 (by omega) f5 D4⟩
      · simp only [e0, e1, decide_false, Bool.false_eq_true, if_false]
        refine ⟨l, D4, ⟨by decide, by decide⟩, fun n W5 hn hl f6 D5 => ?_⟩
        exact ⟨z3 _ _ _, W5, .refl _, hq a b n W5 hab hn (by omega) (f5.trans f6) D5⟩
abbrev N__law_refused : List Str := ["call", "e"]
theorem sc__law_refused : FnScope N__law_refused ["call"] (defScope s__law_refused) := ⟨rfl, rfl, rfl, by decide +kernel, rfl, by decide +kernel, by decide +kernel⟩

abbrev PtR (K : PySem.W.Frag) : Addr := (He.cT K ("_law_are_refused", none)).2
abbrev qR : Str := (envOfC "_law_are_refused" (defScope s__law_are_refused) 0 0 .none).qual ++ "<lambda>"
def spRef (K : PySem.W.Frag) : SpL := fun tlw W R => ∀ (R' : Kw) (E' : Addr → T → Hw → Prop), (∀ t W1, R (.tup [.str "told", t]) W1 → R' t W1) →
  (∀ C t W1, ((C = He.ga K "BadText" ∧ R (.tup [.str "text", t, .bl true]) W1) ∨ (C = He.ga K "BadEdit" ∧ R (.tup [.str "edit", t, .bl true]) W1)) → E' C t W1) → tlw W R' E'
def hdT (K : PySem.W.Frag) (x : Str) (nm : Str) : Hd := (He.ga K nm, 1, fun a dd => wRet (wTup (wCons (wK (.str x)) (wCons (wThing a dd (wVar 1)) (wCons (wCB (rIsCT a dd [He.ga K "ReadError"]) (wCons (wVar 1) (wCons (wK (.ref (He.ga K "ReadError"))) wNil))) wNil)))))
def twRef (K : PySem.W.Frag) (te : TEw) : TSw := wTry [He.ga K "BadText", He.ga K "BadEdit"] (wRet (wTup (wCons (wK (.str "told")) (wCons te wNil)))) [hdT K "text" "BadText", hdT K "edit" "BadEdit"]
theorem suite_sem {K : PySem.W.Frag} {R : Kw} {W1 : Hw} {a dd : Addr} {t : T} {x : Str} (hdd : W1 dd = none) (N : Sw → Hw → Prop) (h : R (.tup [.str x, t, .bl true]) W1) {D : EndsW} (hD : D.rt = fun t W' => ∃ W0, Sub W0 W' ∧ R t W0) :
    wRet (wTup (wCons (wK (.str x)) (wCons (wThing a dd (wVar 1)) (wCons (wCB (rIsCT a dd [He.ga K "ReadError"]) (wCons (wVar 1) (wCons (wK (.ref (He.ga K "ReadError"))) wNil))) wNil)))) D [none, some (.ref a)] (updw W1 dd (.exc t)) := by
  simp only [wRet, wTup, wCons, wK, wThing, wVar, List.getElem?_cons_zero, List.getElem?_cons_succ, updw_same, wCB, wNil, rIsCT, hD, true_and]
  refine ⟨List.mem_singleton.mpr rfl, ⟨t, rfl⟩, by rw [sizeLine_eq]; simp, W1, Sub.new hdd, h⟩
theorem gives_refused {X : Cx} (F : Fs X.K X.mg) {g : Addr} {cdg : Value} {q : Str} : LamX.GivesTo X N__law_refused "_law_refused" (defScope s__law_refused) g cdg (defBody s__law_refused) "call" q (TTl X.K (spRef X.K)) := by
  refine gives_w (tw := twRef X.K) (fun s H te hcall => ?_) (fun f c' H0 tlw W R hS hc' => ?_)
  · refine ls_one (s_try rfl rfl sc__law_refused.nd LamX.takes0 (fun Wb pn xe tk => ls_one (s_ret (w_tup (la_cons w_str (la_cons (hcall Wb pn xe _ _ tk) la_nil)))))
      (.cons rfl rfl ⟨rfl, by decide, .inl F.g_BadText⟩ (fun a dd oe pn hz hf => ls_one (s_ret (w_tup (la_cons w_str (la_cons (w_thing F.e_BadText.xf F.e_BadText.noN hz hf (w_var 1)) (la_cons (w_callB (ct_isC hz hf (fun c hc => by rw [List.mem_singleton.mp hc]; exact F.x_6)) F.n_isinstance PyProof.Rows.boot_isinstance (la_cons (w_var 1) (la_cons (w_gcls F.g_ReadError) la_nil))) la_nil))))))
      (.cons rfl rfl ⟨rfl, by decide, .inl F.g_BadEdit⟩ (fun a dd oe pn hz hf => ls_one (s_ret (w_tup (la_cons w_str (la_cons (w_thing F.e_BadEdit.xf F.e_BadEdit.noN hz hf (w_var 1)) (la_cons (w_callB (ct_isC hz hf (fun c hc => by rw [List.mem_singleton.mp hc]; exact F.x_7)) F.n_isinstance PyProof.Rows.boot_isinstance (la_cons (w_var 1) (la_cons (w_gcls F.g_ReadError) la_nil))) la_nil)))))) .nil)) ?_)
    intro C hC k hk
    simp only [List.mem_cons, List.not_mem_nil, or_false] at hC hk
    rcases hC with rfl | rfl <;> rcases hk with rfl | rfl
    · exact F.x_2
    · exact F.x_3
    · exact F.x_4
    · exact F.x_5
  · show wCallF f c' q H0 N__law_refused.length tlw _ _ _ _
    refine ⟨rfl, updw_same, W, Sub.new hc', hS _ _ (fun t W1 h => ⟨by rw [sizeLine_eq]; simp, W1, .refl _, h⟩) (fun C t W1 h => ?_)⟩
    rcases h with ⟨rfl, h⟩ | ⟨rfl, h⟩
    · refine ⟨by simp, ?_⟩
      show (if _ = _ then _ else _)
      rw [if_pos rfl]
      intro a dd ha hdd hne
      exact suite_sem hdd (fun _ _ => True) h rfl
    · refine ⟨by simp, ?_⟩
      show (if _ = _ then _ else _)
      rw [if_neg F.x_8]
      show (if _ = _ then _ else _)
      rw [if_pos rfl]
      intro a dd ha hdd hne
      exact suite_sem hdd (fun _ _ => True) h rfl
theorem lam_refused {X : Cx} {Wx : WX} {K0 : PySem.W.Frag} {q0 : Str} (F : Fs X.K X.mg) {c Pt : Addr} {kk : Nat} {params : Arguments} {body : Expr} {scope : Scope} {tb : TEw} {p lpos pos : Pos} (TB : LamX.TabB X.base X.mg c Pt) (hcode : X.env.code = .ref c) (hr : Room (kk + 2) X.A) (L : LamX.LamS X.env.scope scope) (hdef : defaultsOf params X.env = ([], []))
    (hbind : ∀ (q : Str) (cl : List (Str × Addr)) (pm cv ctv : Value), bindArgs (PySem.W.kla_fn "<lambda>" q params body scope cl pm cv ctv) ⟨[], []⟩ = pure [])
    (hbody : ∀ (A : Around) (outer : List Env) (s : Shared) (H : Hp) (E : XK) (f c' : Addr), Room kk (A.deeper (LamX.lamEnv X scope s.heap.objs.size f c')) → LE (LamX.lamCx X A outer s H E scope f c') (defX E) body tb) (hg : Gl X "_law_refused") (hK : X.K = K0) (hq : X.env.qual ++ "<lambda>" = q0) :
    LE X Wx (.Call (.Name "_law_refused" p) [.Lambda params body scope lpos] [] pos) (wLam Pt q0 (spRef K0) tb) := by
  subst hK hq
  obtain ⟨fd, Fn⟩ := F.f__law_refused
  have hb := Fn.binds (ps := ["call"]) (fun _ _ _ _ _ _ us hl => match us, hl with | [_], _ => rfl)
  obtain ⟨oc, od, kV, doc, pm, an, cdv, ct, osl, rfl, lk, hcd⟩ := Fn.ex
  exact w_lamcall F.g__law_refused Fn.kp lk hcd hb sc__law_refused rfl (.inl rfl) (gives_refused F) TB hcode hr L hdef hbind hbody hg
theorem lam_text {K : PySem.W.Frag} {Pt : Addr} {q : Str} {τ : Sw} {W : Hw} {y : T} {tb : TEw} (lo : LamOk Pt q W) (ht : ∀ R' E', E' (He.ga K "BadText") y τ W → tb τ W R' E') : ∀ R E, R (.tup [.str "text", y, .bl true]) W → wLam Pt q (spRef K) tb τ W R E :=
  fun R E h => ⟨lo, fun R' E' h1 h2 => ht _ _ (h2 _ _ _ (.inl ⟨rfl, h⟩))⟩
theorem lam_edit {K : PySem.W.Frag} {Pt : Addr} {q : Str} {τ : Sw} {W : Hw} {y : T} {tb : TEw} (lo : LamOk Pt q W) (ht : ∀ R' E', E' (He.ga K "BadEdit") y τ W → tb τ W R' E') : ∀ R E, R (.tup [.str "edit", y, .bl true]) W → wLam Pt q (spRef K) tb τ W R E :=
  fun R E h => ⟨lo, fun R' E' h1 h2 => ht _ _ (h2 _ _ _ (.inr ⟨rfl, h⟩))⟩
theorem spE_text {K : PySem.W.Frag} {res : Str → Int → Int → Str → T} {y z : T} {W : Hw} {Q : Kw} {E : Addr → T → Hw → Prop} (hy : isStrT y = false) (ty : Ty W y) (h : E (He.ga K "BadText") y W) : spE K res [y, z] W Q E := by
  cases y <;> first | exact ⟨ty, hy, h⟩ | cases hy
theorem spE_edit {K : PySem.W.Frag} {res : Str → Int → Int → Str → T} {x : Str} {z : T} {W : Hw} {Q : Kw} {E : Addr → T → Hw → Prop} (hx : x.length ≤ 100000) (ht : textB (.str x) = true) (hs : ShE W z) (hz : editB x z = false) (h : E (He.ga K "BadEdit") z W) : spE K res [.str x, z] W Q E := by
  refine ⟨hx, hs, ?_⟩
  rw [if_pos ht, if_neg (by rw [hz]; decide)]
  exact h
def flatB : T → Bool
  | .non => true
  | .bl _ => true
  | .int _ => true
  | .str x => decide (x.length ≤ 100)
  | _ => false
theorem flat_shp {W : Hw} {t : T} (h : flatB t = true) : Shp W t := by
  cases t with
  | str x => exact ⟨rfl, fun y hy => by cases hy; have := of_decide_eq_true h; omega⟩
  | non => exact ⟨rfl, fun y hy => by cases hy⟩
  | bl b => exact ⟨rfl, fun y hy => by cases hy⟩
  | int i => exact ⟨rfl, fun y hy => by cases hy⟩
  | tup ts => cases h
  | rol ts => cases h
  | ref a => cases h
  | ty n => cases h
theorem flat_sm {W : Hw} {t : T} (h : flatB t = true) : Sm W 1 t t := by
  cases t with
  | str x => exact .str x
  | non => exact .non
  | bl b => exact .bl b
  | int i => exact .int i
  | tup ts => cases h
  | rol ts => cases h
  | ref a => cases h
  | ty n => cases h
theorem flat_sms {W : Hw} : ∀ {ts : List T}, ts.all flatB = true → Sms W ts.length ts ts
  | [], _ => .nil
  | t :: ts, h => by
    simp only [List.all_cons, Bool.and_eq_true] at h
    have := Sms.cons (flat_sm (W := W) h.1) (flat_sms h.2)
    rw [List.length_cons, Nat.add_comm]
    exact this
def BadP (x : Str) (p3 : Addr) (z : T) : Prop := editB x z = false ∧ ∀ W' : Hw, W' p3 = some (.lst [.int 0, .int 0, .str ""]) → ShE W' z ∧ ∃ nb, nb ≤ 10 ∧ Sm W' nb z z
theorem bad_flat {x : Str} {p3 : Addr} {ts : List T} (h : ts.all flatB = true) (hl : ts.length ≤ 9) (he : editB x (.tup ts) = false) : BadP x p3 (.tup ts) :=
  ⟨he, fun W' _ => ⟨⟨rfl, fun xs hxs y hy => by cases hxs; exact flat_shp (List.all_eq_true.mp h y hy)⟩, ts.length + 1, by omega, .tup (flat_sms h)⟩⟩
theorem bad_list {x : Str} {p3 : Addr} {z : T} (hz : z ∈ [T.non, T.tup [], T.tup [T.int 0, T.int 0], T.tup [T.int 0, T.int 0, T.str "", T.int 0],
            T.ref p3, T.tup [T.int 0, T.int ((x.length : Int) + 1), T.str ""],
            T.tup [T.int ((x.length : Int) + 1), T.int ((x.length : Int) + 1), T.str "x"],
            T.tup [T.int (-1), T.int 0, T.str ""], T.tup [T.int 0, T.int (-1), T.str ""],
            T.tup [T.bl true, T.int (x.length : Int), T.str "x"],
            T.tup [T.int 0, T.bl false, T.str "x"],
            T.tup [T.str "0", T.int 0, T.str ""], T.tup [T.int 0, T.int 0, T.non],
            T.tup [T.int 0, T.int 0, T.int 7], T.tup [T.int 0, T.int 0, T.tup [T.str "x"]],
            T.tup [T.non, T.int 0, T.str ""], T.tup [T.str "", T.int 0, T.int 0], T.tup [T.int 1, T.int 0, T.str ""], T.tup [T.int (x.length : Int), T.int ((x.length : Int) - 1), T.str ""]]) : BadP x p3 z := by
  simp only [List.mem_cons, List.not_mem_nil, or_false] at hz
  rcases hz with h | h | h | h | h | h | h | h | h | h | h | h | h | h | h | h | h | h | h <;> subst h
  · exact ⟨rfl, fun W' _ => ⟨⟨rfl, fun xs hxs => by cases hxs⟩, 1, by decide, .non⟩⟩
  · exact bad_flat rfl (by simp) rfl
  · exact bad_flat rfl (by simp) rfl
  · exact bad_flat (by kernel_rfl) (by simp) rfl
  · refine ⟨rfl, fun W' h => ⟨⟨ty_lst h, fun xs hxs => by cases hxs⟩, 4, by decide, .lst h h (flat_sms (ts := [T.int 0, T.int 0, T.str ""]) (by kernel_rfl))⟩⟩
  · exact bad_flat (by kernel_rfl) (by simp) (by simp [editB, btwB]; intros; omega)
  · exact bad_flat (by kernel_rfl) (by simp) (by simp [editB, btwB]; intros; omega)
  · exact bad_flat (by kernel_rfl) (by simp) (by simp [editB, btwB])
  · exact bad_flat (by kernel_rfl) (by simp) (by simp [editB, btwB])
  · exact bad_flat (by kernel_rfl) (by simp) rfl
  · exact bad_flat (by kernel_rfl) (by simp) (by simp [editB, btwB])
  · exact bad_flat (by kernel_rfl) (by simp) rfl
  · exact bad_flat (by kernel_rfl) (by simp) (by simp [editB, textB])
  · exact bad_flat (by kernel_rfl) (by simp) (by simp [editB, textB])
  · refine ⟨by simp [editB, textB], fun W' _ => ⟨⟨rfl, fun xs hxs y hy => ?_⟩, 5, by decide, .tup (.cons (.int 0) (.cons (.int 0) (.cons (.tup (.cons (.str "x") .nil)) .nil)))⟩⟩
    cases hxs
    simp only [List.mem_cons, List.not_mem_nil, or_false] at hy
    rcases hy with h | h | h <;> subst h
    · exact flat_shp rfl
    · exact flat_shp rfl
    · exact ⟨rfl, fun y hy => by cases hy⟩
  · exact bad_flat (by kernel_rfl) (by simp) rfl
  · exact bad_flat (by kernel_rfl) (by simp) rfl
  · exact bad_flat (by kernel_rfl) (by simp) (by simp [editB, btwB])
  · exact bad_flat (by kernel_rfl) (by simp) (by simp [editB, btwB]; omega)
def sp__law_are_refused (K : PySem.W.Frag) : Spw := fun ws W Q _ => match ws with
  | [.ref d, .str x] => ∃ l, Deck d l W ∧ textB (.str x) = true ∧ x.length ≤ 1000 ∧ LamOk (PtR K) qR W ∧ ∀ W', Fr d l W W' → Deck d l W' → Q (.bl true) W'
  | _ => False

abbrev N__law_are_refused : List Str := ["deck", "text", "n", "odd", "some", "bad", "heard"]
theorem sc__law_are_refused : FnScope N__law_are_refused ["deck", "text"] (defScope s__law_are_refused) := ⟨rfl, rfl, rfl, by decide +kernel, rfl, by decide +kernel, by decide +kernel⟩
theorem ok__law_are_refused (F : Fs K mg) (C__law_same : Cal P w K mg base 1 "_law_same" s__law_same ["told", "due"] sp__law_same) (C_undo_of : Cal P w K mg base 5 "undo_of" s_undo_of ["text", "edit"] (sp_undo_of K)) (C_edited : Cal P w K mg base 5 "edited" s_edited ["text", "edit"] (sp_edited K)) (C__law_pick : Cal P w K mg base 2 "_law_pick" s__law_pick ["deck", "some"] sp__law_pick) (TB : LamX.TabB base mg (He.cT K ("_law_are_refused", none)).1 (He.cT K ("_law_are_refused", none)).2) : Cal P w K mg base 8 "_law_are_refused" s__law_are_refused ["deck", "text"] (sp__law_are_refused K) := by
  obtain ⟨fd, Fn⟩ := F.f__law_are_refused
  refine ⟨_, fd, F.g__law_are_refused, Fn, Fn.binds (fun _ _ _ _ _ _ us hl => match us, hl with | [_, _], _ => rfl), FnT.okC (p := ("_law_are_refused", none)) (k := 7) Fn rfl sc__law_are_refused ?len (fun A outer s H E hr => (ls_cons (s_asg (w_tup (la_cons (w_callB ct_len F.n_len PyProof.Rows.bootS_len (la_cons (w_var 1) la_nil)) (la_cons (w_cal C__law_pick hr (takes_of rfl rfl rfl rfl) (la_cons (w_var 0) (la_cons (w_lst (la_cons w_non (la_cons w_int (la_cons (w_lst (la_cons w_str la_nil)) (la_cons (w_tup (la_cons w_str la_nil)) (la_cons (w_tup la_nil) (la_cons w_bl la_nil))))))) la_nil))) la_nil))) (g_tup rfl (gs_cons (g_name 2 sc__law_are_refused.nd) (gs_cons (g_name 3 sc__law_are_refused.nd) gs_nil)))) (ls_cons (s_set 4 sc__law_are_refused.nd (w_lst (la_cons w_non (la_cons (w_tup la_nil) (la_cons (w_tup (la_cons w_int (la_cons w_int la_nil))) (la_cons (w_tup (la_cons w_int (la_cons w_int (la_cons w_str (la_cons w_int la_nil))))) (la_cons (w_lst (la_cons w_int (la_cons w_int (la_cons w_str la_nil)))) (la_cons (w_tup (la_cons w_int (la_cons (w_op ot_add (w_var 2) w_int) (la_cons w_str la_nil)))) (la_cons (w_tup (la_cons (w_op ot_add (w_var 2) w_int) (la_cons (w_op ot_add (w_var 2) w_int) (la_cons w_str la_nil)))) (la_cons (w_tup (la_cons (w_neg w_int) (la_cons w_int (la_cons w_str la_nil)))) (la_cons (w_tup (la_cons w_int (la_cons (w_neg w_int) (la_cons w_str la_nil)))) (la_cons (w_tup (la_cons w_bl (la_cons (w_var 2) (la_cons w_str la_nil)))) (la_cons (w_tup (la_cons w_int (la_cons w_bl (la_cons w_str la_nil)))) (la_cons (w_tup (la_cons w_str (la_cons w_int (la_cons w_str la_nil)))) (la_cons (w_tup (la_cons w_int (la_cons w_int (la_cons w_non la_nil)))) (la_cons (w_tup (la_cons w_int (la_cons w_int (la_cons w_int la_nil)))) (la_cons (w_tup (la_cons w_int (la_cons w_int (la_cons (w_tup (la_cons w_str la_nil)) la_nil)))) (la_cons (w_tup (la_cons w_non (la_cons w_int (la_cons w_str la_nil)))) (la_cons (w_tup (la_cons w_str (la_cons w_int (la_cons w_int la_nil)))) la_nil))))))))))))))))))) (ls_cons (s_set 5 sc__law_are_refused.nd (w_cal C__law_pick hr (takes_of rfl rfl rfl rfl) (la_cons (w_var 0) (la_cons (w_op ot_add (w_op ot_add (w_var 4) (w_ife (lt_cmp ot_gt (w_var 2) w_int) (w_lst (la_cons (w_tup (la_cons w_int (la_cons w_int (la_cons w_str la_nil)))) la_nil)) (w_lst la_nil))) (w_lst (la_cons (w_tup (la_cons (w_var 2) (la_cons (w_op ot_sub (w_var 2) w_int) (la_cons w_str la_nil)))) la_nil))) la_nil)))) (ls_cons (s_set 6 sc__law_are_refused.nd (w_lst (la_cons (by refine lam_refused (kk := 5) (K0 := K) (q0 := qR) (Pt := PtR K) (c := (He.cT K ("_law_are_refused", none)).1) (tb := (wCall (sp_edited K) (wCons (wVar 3) (wCons (wVar 5) wNil)))) ?_ ?_ ?_ ?_ ?_ ?_ ?_ ?_ ?_ ?_ ?_; exact F; exact TB; rfl; exact hr.mono (by decide); exact LamX.lamS_by (sc := defScope s__law_are_refused) (by decide +kernel); rfl; exact fun _ _ _ _ _ => rfl; exact fun A outer s H E f c' hr => (w_cal C_edited hr (takes_of rfl rfl rfl rfl) (la_cons (w_var 3) (la_cons (w_var 5) la_nil))); rfl; rfl; rfl) la_nil))) (ls_cons (s_expr (w_bm PySem.F.plainAttrs_list PySem.F.slot_list_append PySem.F.type_list_append mtt_append (w_var 6) (la_cons (by refine lam_refused (kk := 5) (K0 := K) (q0 := qR) (Pt := PtR K) (c := (He.cT K ("_law_are_refused", none)).1) (tb := (wCallK (sp_undo_of K) [1, 0] (wCons (wVar 5) (wCons (wVar 3) wNil)))) ?_ ?_ ?_ ?_ ?_ ?_ ?_ ?_ ?_ ?_ ?_; exact F; exact TB; rfl; exact hr.mono (by decide); exact LamX.lamS_by (sc := defScope s__law_are_refused) (by decide +kernel); rfl; exact fun _ _ _ _ _ => rfl; exact fun A outer s H E f c' hr => (w_calK (is := [1, 0]) (ks := ["edit", "text"]) C_undo_of hr (takes_of rfl rfl rfl rfl) kb_undo_of_1_0 (lk_cons (w_var 5) (lk_cons (w_var 3) lk_nil))); rfl; rfl; rfl) la_nil))) (ls_cons (s_expr (w_bm PySem.F.plainAttrs_list PySem.F.slot_list_append PySem.F.type_list_append mtt_append (w_var 6) (la_cons (by refine lam_refused (kk := 5) (K0 := K) (q0 := qR) (Pt := PtR K) (c := (He.cT K ("_law_are_refused", none)).1) (tb := (wCallK (sp_edited K) [1, 0] (wCons (wTup (wCons (wK (.int 0)) (wCons (wK (.int 0)) (wCons (wK (.str "")) wNil)))) (wCons (wVar 3) wNil)))) ?_ ?_ ?_ ?_ ?_ ?_ ?_ ?_ ?_ ?_ ?_; exact F; exact TB; rfl; exact hr.mono (by decide); exact LamX.lamS_by (sc := defScope s__law_are_refused) (by decide +kernel); rfl; exact fun _ _ _ _ _ => rfl; exact fun A outer s H E f c' hr => (w_calK (is := [1, 0]) (ks := ["edit", "text"]) C_edited hr (takes_of rfl rfl rfl rfl) kb_edited_1_0 (lk_cons (w_tup (la_cons w_int (la_cons w_int (la_cons w_str la_nil)))) (lk_cons (w_var 3) lk_nil))); rfl; rfl; rfl) la_nil))) (ls_cons (s_expr (w_bm PySem.F.plainAttrs_list PySem.F.slot_list_append PySem.F.type_list_append mtt_append (w_var 6) (la_cons (by refine lam_refused (kk := 5) (K0 := K) (q0 := qR) (Pt := PtR K) (c := (He.cT K ("_law_are_refused", none)).1) (tb := (wCall (sp_edited K) (wCons (wVar 1) (wCons (wVar 5) wNil)))) ?_ ?_ ?_ ?_ ?_ ?_ ?_ ?_ ?_ ?_ ?_; exact F; exact TB; rfl; exact hr.mono (by decide); exact LamX.lamS_by (sc := defScope s__law_are_refused) (by decide +kernel); rfl; exact fun _ _ _ _ _ => rfl; exact fun A outer s H E f c' hr => (w_cal C_edited hr (takes_of rfl rfl rfl rfl) (la_cons (w_var 1) (la_cons (w_var 5) la_nil))); rfl; rfl; rfl) la_nil))) (ls_cons (s_expr (w_bm PySem.F.plainAttrs_list PySem.F.slot_list_append PySem.F.type_list_append mtt_append (w_var 6) (la_cons (by refine lam_refused (kk := 5) (K0 := K) (q0 := qR) (Pt := PtR K) (c := (He.cT K ("_law_are_refused", none)).1) (tb := (wCallK (sp_undo_of K) [1, 0] (wCons (wVar 5) (wCons (wVar 1) wNil)))) ?_ ?_ ?_ ?_ ?_ ?_ ?_ ?_ ?_ ?_ ?_; exact F; exact TB; rfl; exact hr.mono (by decide); exact LamX.lamS_by (sc := defScope s__law_are_refused) (by decide +kernel); rfl; exact fun _ _ _ _ _ => rfl; exact fun A outer s H E f c' hr => (w_calK (is := [1, 0]) (ks := ["edit", "text"]) C_undo_of hr (takes_of rfl rfl rfl rfl) kb_undo_of_1_0 (lk_cons (w_var 5) (lk_cons (w_var 1) lk_nil))); rfl; rfl; rfl) la_nil))) (ls_one (s_ret (w_cal C__law_same hr (takes_of rfl rfl rfl rfl) (la_cons (w_var 6) (la_cons (w_op ot_add (w_op ot_mul (w_lst (la_cons (w_tup (la_cons w_str (la_cons (w_var 3) (la_cons w_bl la_nil)))) la_nil)) w_int) (w_op ot_mul (w_lst (la_cons (w_tup (la_cons w_str (la_cons (w_var 5) (la_cons w_bl la_nil)))) la_nil)) w_int)) la_nil)))))))))))))) ?sem⟩
  case len => intro ws W R E h; unfold sp__law_are_refused at h; split at h <;> first | rfl | exact h.elim
  case sem =>
    intro ws W R E h
    unfold sp__law_are_refused at h
    split at h <;> try exact h.elim
    rename_i d x
    obtain ⟨l, hD, hx, hxl, lo, hq⟩ := h
    rw [show startw N__law_are_refused [T.ref d, T.str x] = [some (.ref d), some (.str x), none, none, none, none, none] from rfl]
    refine seq_gen fun N1 hN1 => ?_
    dsimp only [wAsg, wTup, wCons, wCB, wVar, wNil, wCall, wLst, wK, List.getElem?_cons_zero, List.getElem?_cons_succ, rLen, sp__law_pick]
    refine ⟨by rw [sizeLine_eq]; omega, by rw [sizeLine_eq]; simp, fun p1 hp1 => ⟨by rw [sizeLine_eq]; simp, by rw [sizeLine_eq]; simp, by rw [sizeLine_eq]; simp, fun p2 hp2 => ?_⟩⟩
    have o1 := hD.off hp1
    have D1 := hD.new (o := .lst [.str "a"]) hp1
    have o2 := D1.off hp2
    have n21 : p2 ≠ p1 := fun z => by rw [z, updw_same] at hp2; cases hp2
    refine ⟨l, _, D1.new hp2, itemsT_new, fun a e => by cases e; exact o2, ⟨by simp, by simp⟩, fun odd hodd W1 f1 D1 => ⟨by rw [sizeLine_eq]; simp, ?_⟩⟩
    have hW1 : W1 p1 = some (.lst [.str "a"]) := f1.old p1 _ o1.1 o1.2 (by rw [updw_ne (Ne.symm n21), updw_same])
    have g1 : Fr d l W W1 := ((Fr.new hp1 rfl).trans (Fr.new hp2 rfl)).trans f1
    have lo1 : LamOk (PtR K) qR W1 := g1.lam lo (fun z => by obtain ⟨cs, m, n, h1, _⟩ := hD; rw [z, lo.at_] at h1; cases h1) (fun z => by obtain ⟨cs, m, n, _, h1, _⟩ := hD; rw [z, lo.at_] at h1; cases h1)
    obtain ⟨so, hO⟩ : isStrT odd = false ∧ ∀ W' : Hw, W' p1 = some (.lst [.str "a"]) → Ty W' odd ∧ ∃ no, no ≤ 10 ∧ Sm W' no odd odd := by
      have hs : ∀ (W' : Hw) (z : Str), Sms W' (1 + 0) [.str z] [.str z] := fun W' z => .cons (.str z) .nil
      simp only [List.mem_cons, List.not_mem_nil, or_false] at hodd
      rcases hodd with h | h | h | h | h | h <;> subst h
      · exact ⟨rfl, fun W' _ => ⟨rfl, 1, by decide, .non⟩⟩
      · exact ⟨rfl, fun W' _ => ⟨rfl, 1, by decide, .int 7⟩⟩
      · exact ⟨rfl, fun W' h => ⟨ty_lst h, _, by decide, .lst h h (hs _ _)⟩⟩
      · exact ⟨rfl, fun W' _ => ⟨rfl, _, by decide, .tup (hs _ _)⟩⟩
      · exact ⟨rfl, fun W' _ => ⟨rfl, _, by decide, .tup .nil⟩⟩
      · exact ⟨rfl, fun W' _ => ⟨rfl, 1, by decide, .bl true⟩⟩
    show N1 [some (.ref d), some (.str x), some (.int x.length), some odd, none, none, none] W1
    rw [hN1]
    clear hN1 N1 hodd hp2 o2 n21 f1
    refine seq_gen fun N2 hN2 => ?_
    dsimp only [wAsg, wTup, wCons, wCB, wVar, wNil, wCall, wLst, wK, wOp, List.getElem?_cons_zero, List.getElem?_cons_succ, rAddT]
    repeat (refine ⟨by rw [sizeLine_eq]; simp, ?_⟩)
    intro p3 hp3
    repeat (refine ⟨by rw [sizeLine_eq]; simp, ?_⟩)
    intro p4 hp4
    have o3 := D1.off hp3
    have D2 := D1.new (o := .lst [.int 0, .int 0, .str ""]) hp3
    have o4 := D2.off hp4
    have hW2p1 := upd_at (u := .lst [.int 0, .int 0, .str ""]) hW1 hp3
    have n43 : p4 ≠ p3 := fun z => by rw [z, updw_same] at hp4; cases hp4
    have hW2p3 : (updw W1 p3 (.lst [.int 0, .int 0, .str ""])) p3 = some (.lst [.int 0, .int 0, .str ""]) := updw_same
    have g2 : Fr d l W (updw W1 p3 (.lst [.int 0, .int 0, .str ""])) := g1.trans (Fr.new hp3 rfl)
    have lo2 := lo1.new (o := .lst [.int 0, .int 0, .str ""]) hp3 rfl
    generalize updw W1 p3 (.lst [.int 0, .int 0, .str ""]) = W2 at hp4 D2 o4 hW2p1 hW2p3 g2 lo2 ⊢
    show N2 [some (.ref d), some (.str x), some (.int x.length), some odd, some (.ref p4), none, none] _
    have hP4 : ∀ z ∈ [T.non, T.tup [], T.tup [T.int 0, T.int 0], T.tup [T.int 0, T.int 0, T.str "", T.int 0],
                T.ref p3, T.tup [T.int 0, T.int ((x.length : Int) + 1), T.str ""],
                T.tup [T.int ((x.length : Int) + 1), T.int ((x.length : Int) + 1), T.str "x"],
                T.tup [T.int (-1), T.int 0, T.str ""], T.tup [T.int 0, T.int (-1), T.str ""],
                T.tup [T.bl true, T.int (x.length : Int), T.str "x"],
                T.tup [T.int 0, T.bl false, T.str "x"],
                T.tup [T.str "0", T.int 0, T.str ""], T.tup [T.int 0, T.int 0, T.non],
                T.tup [T.int 0, T.int 0, T.int 7], T.tup [T.int 0, T.int 0, T.tup [T.str "x"]],
                T.tup [T.non, T.int 0, T.str ""], T.tup [T.str "", T.int 0, T.int 0]], BadP x p3 z := fun z hz => bad_list (List.mem_append_left [T.tup [T.int 1, T.int 0, T.str ""], T.tup [T.int (x.length : Int), T.int ((x.length : Int) - 1), T.str ""]] hz)
    have hL4 : [T.non, T.tup [], T.tup [T.int 0, T.int 0], T.tup [T.int 0, T.int 0, T.str "", T.int 0],
                T.ref p3, T.tup [T.int 0, T.int ((x.length : Int) + 1), T.str ""],
                T.tup [T.int ((x.length : Int) + 1), T.int ((x.length : Int) + 1), T.str "x"],
                T.tup [T.int (-1), T.int 0, T.str ""], T.tup [T.int 0, T.int (-1), T.str ""],
                T.tup [T.bl true, T.int (x.length : Int), T.str "x"],
                T.tup [T.int 0, T.bl false, T.str "x"],
                T.tup [T.str "0", T.int 0, T.str ""], T.tup [T.int 0, T.int 0, T.non],
                T.tup [T.int 0, T.int 0, T.int 7], T.tup [T.int 0, T.int 0, T.tup [T.str "x"]],
                T.tup [T.non, T.int 0, T.str ""], T.tup [T.str "", T.int 0, T.int 0]].length = 17 := rfl
    generalize [T.non, T.tup [], T.tup [T.int 0, T.int 0], T.tup [T.int 0, T.int 0, T.str "", T.int 0],
                T.ref p3, T.tup [T.int 0, T.int ((x.length : Int) + 1), T.str ""],
                T.tup [T.int ((x.length : Int) + 1), T.int ((x.length : Int) + 1), T.str "x"],
                T.tup [T.int (-1), T.int 0, T.str ""], T.tup [T.int 0, T.int (-1), T.str ""],
                T.tup [T.bl true, T.int (x.length : Int), T.str "x"],
                T.tup [T.int 0, T.bl false, T.str "x"],
                T.tup [T.str "0", T.int 0, T.str ""], T.tup [T.int 0, T.int 0, T.non],
                T.tup [T.int 0, T.int 0, T.int 7], T.tup [T.int 0, T.int 0, T.tup [T.str "x"]],
                T.tup [T.non, T.int 0, T.str ""], T.tup [T.str "", T.int 0, T.int 0]] = L4 at hP4 hL4 ⊢
    have hW3p1 := upd_at (u := .lst L4) hW2p1 hp4
    have hW3p3 := upd_at (u := .lst L4) hW2p3 hp4
    have g3 : Fr d l W (updw W2 p4 (.lst L4)) := g2.trans (Fr.new hp4 rfl)
    have lo3 := lo2.new (o := .lst L4) hp4 rfl
    have D3 := D2.new (o := .lst L4) hp4
    have hp4' : (updw W2 p4 (.lst L4)) p4 = some (.lst L4) := updw_same
    generalize updw W2 p4 (.lst L4) = W3 at hW3p1 hW3p3 g3 lo3 D3 hp4' ⊢
    rw [hN2]
    clear hN2 N2
    refine seq_gen fun N3 hN3 => ?_
    have fin : ∀ bad W4, BadP x p3 bad → W4 p1 = some (.lst [.str "a"]) → W4 p3 = some (.lst [.int 0, .int 0, .str ""]) → Fr d l W W4 → LamOk (PtR K) qR W4 → Deck d l W4 → N3 [some (.ref d), some (.str x), some (.int x.length), some odd, some (.ref p4), some bad, none] W4 := by
      intro bad W4 hbad h1 h3 g lo D4
      obtain ⟨he, hB⟩ := hbad
      rw [hN3]
      clear hN3 N3
      refine seq_gen fun N4 hN4 => ?_
      dsimp only [wAsg, wLst, wCons, wNil]
      refine lam_text lo (fun R' E' h => call2 (y := odd) (z := bad) rfl rfl (spE_text so (hO _ h1).1 h)) _ _ ⟨by rw [sizeLine_eq]; simp, fun p6 hp6 => ?_⟩
      show N4 [some (.ref d), some (.str x), some (.int x.length), some odd, some (.ref p4), some bad, some (.ref p6)] _
      rw [hN4]
      clear hN4 N4
      have hx2 : x.length ≤ 100000 := by omega
      have z6 : ∀ (ls : List T), ls.length ≤ 10 → ls.length < sizeLine := fun ls h => by rw [sizeLine_eq]; omega
      refine wseq_of (drop_append (i := 6) rfl updw_same (z6 _ (by simp)) (lam_text (lo.new hp6 rfl) (fun R' E' h => callK2 (y := bad) (z := odd) rfl rfl (spE_text so (hO _ (upd_at h1 hp6)).1 h))) ?_)
      rw [updw_updw]
      dsimp only
      refine wseq_of (drop_append (i := 6) rfl updw_same (z6 _ (by simp)) (lam_text (y := odd) (lo.new hp6 rfl) (fun R' E' h => ?_)) ?_)
      · dsimp only [wCallK, wTup, wCons, wK, wNil, wVar, List.getElem?_cons_zero, List.getElem?_cons_succ]
        refine ⟨by rw [sizeLine_eq]; simp, ?_⟩
        rw [pm10]
        exact spE_text so (hO _ (upd_at h1 hp6)).1 h
      rw [updw_updw]
      dsimp only
      refine wseq_of (drop_append (i := 6) rfl updw_same (z6 _ (by simp)) (lam_edit (lo.new hp6 rfl) (fun R' E' h => call2 (y := .str x) (z := bad) rfl rfl (spE_edit hx2 hx (hB _ (upd_at h3 hp6)).1 he h))) ?_)
      rw [updw_updw]
      dsimp only
      refine wseq_of (drop_append (i := 6) rfl updw_same (z6 _ (by simp)) (lam_edit (lo.new hp6 rfl) (fun R' E' h => callK2 (y := bad) (z := .str x) rfl rfl (spE_edit hx2 hx (hB _ (upd_at h3 hp6)).1 he h))) ?_)
      rw [updw_updw]
      simp only [List.cons_append, List.nil_append]
      have n6 : p6 ≠ p6 → False := fun z => z rfl
      have hS6 : ∀ ls : List T, Fr d l W (updw W4 p6 (.lst ls)) := fun ls => g.trans (Fr.new hp6 rfl)
      have hD6 : ∀ ls : List T, Deck d l (updw W4 p6 (.lst ls)) := fun ls => D4.new hp6
      have hO6 : ∀ ls : List T, (updw W4 p6 (.lst ls)) p1 = some (.lst [.str "a"]) := fun ls => upd_at h1 hp6
      have hB6 : ∀ ls : List T, (updw W4 p6 (.lst ls)) p3 = some (.lst [.int 0, .int 0, .str ""]) := fun ls => upd_at h3 hp6
      have hp6' : ∀ ls : List T, (updw W4 p6 (.lst ls)) p6 = some (.lst ls) := fun ls => updw_same
      show wRet _ _ _ _
      dsimp only [wRet, wCall, wCons, wOp, wLst, wTup, wVar, wK, wNil, List.getElem?_cons_zero, List.getElem?_cons_succ]
      refine ⟨by rw [sizeLine_eq]; simp, by rw [sizeLine_eq]; simp, fun q1 hq1 => mul_list updw_same (by decide) (by decide) (by simp) fun r1 hr1 => ⟨by rw [sizeLine_eq]; simp, by rw [sizeLine_eq]; simp, fun q2 hq2 => mul_list updw_same (by decide) (by decide) (by simp) fun r2 hr2 => add_lists (upd_at (upd_at updw_same hq2) hr2) updw_same (by rw [sizeLine_eq]; show (5 : Nat) ≤ 16777216; decide) fun r3 hr3 => ?_⟩⟩
      have e1 := upd_at (u := .lst ((List.replicate (3 : Int).toNat [T.tup [T.str "text", odd, T.bl true]]).flatten ++ (List.replicate (2 : Int).toNat [T.tup [T.str "edit", bad, T.bl true]]).flatten)) (upd_at (u := .lst (List.replicate (2 : Int).toNat [T.tup [T.str "edit", bad, T.bl true]]).flatten) (upd_at (u := .lst [T.tup [T.str "edit", bad, T.bl true]]) (upd_at (u := .lst (List.replicate (3 : Int).toNat [T.tup [T.str "text", odd, T.bl true]]).flatten) (upd_at (u := .lst [T.tup [T.str "text", odd, T.bl true]]) (hp6' _) hq1) hr1) hq2) hr2) hr3
      have e2 := upd_at (u := .lst ((List.replicate (3 : Int).toNat [T.tup [T.str "text", odd, T.bl true]]).flatten ++ (List.replicate (2 : Int).toNat [T.tup [T.str "edit", bad, T.bl true]]).flatten)) (upd_at (u := .lst (List.replicate (2 : Int).toNat [T.tup [T.str "edit", bad, T.bl true]]).flatten) (upd_at (u := .lst [T.tup [T.str "edit", bad, T.bl true]]) (upd_at (u := .lst (List.replicate (3 : Int).toNat [T.tup [T.str "text", odd, T.bl true]]).flatten) (upd_at (u := .lst [T.tup [T.str "text", odd, T.bl true]]) (hO6 _) hq1) hr1) hq2) hr2) hr3
      have e3 := upd_at (u := .lst ((List.replicate (3 : Int).toNat [T.tup [T.str "text", odd, T.bl true]]).flatten ++ (List.replicate (2 : Int).toNat [T.tup [T.str "edit", bad, T.bl true]]).flatten)) (upd_at (u := .lst (List.replicate (2 : Int).toNat [T.tup [T.str "edit", bad, T.bl true]]).flatten) (upd_at (u := .lst [T.tup [T.str "edit", bad, T.bl true]]) (upd_at (u := .lst (List.replicate (3 : Int).toNat [T.tup [T.str "text", odd, T.bl true]]).flatten) (upd_at (u := .lst [T.tup [T.str "text", odd, T.bl true]]) (hB6 _) hq1) hr1) hq2) hr2) hr3
      have f9 := ((hS6 _).trans ((Fr.new hq1 rfl).trans (Fr.new hr1 rfl))).trans (((Fr.new hq2 rfl).trans (Fr.new hr2 rfl)).trans (Fr.new (o := .lst ((List.replicate (3 : Int).toNat [T.tup [T.str "text", odd, T.bl true]]).flatten ++ (List.replicate (2 : Int).toNat [T.tup [T.str "edit", bad, T.bl true]]).flatten)) hr3 rfl))
      have d9 := (((((hD6 _).new (o := .lst [T.tup [T.str "text", odd, T.bl true]]) hq1).new (o := .lst (List.replicate (3 : Int).toNat [T.tup [T.str "text", odd, T.bl true]]).flatten) hr1).new (o := .lst [T.tup [T.str "edit", bad, T.bl true]]) hq2).new (o := .lst (List.replicate (2 : Int).toNat [T.tup [T.str "edit", bad, T.bl true]]).flatten) hr2).new (o := .lst ((List.replicate (3 : Int).toNat [T.tup [T.str "text", odd, T.bl true]]).flatten ++ (List.replicate (2 : Int).toNat [T.tup [T.str "edit", bad, T.bl true]]).flatten)) hr3
      obtain ⟨_, no, hno, so2⟩ := hO _ e2
      obtain ⟨_, nb, hnb, sb2⟩ := hB _ e3
      have tA := Sm.tup (.cons (.str ("text" : Str)) (.cons so2 (.cons (.bl true) .nil)))
      have tB := Sm.tup (.cons (.str ("edit" : Str)) (.cons sb2 (.cons (.bl true) .nil)))
      refine ⟨_, .lst e1 updw_same (.cons tA (.cons tA (.cons tA (.cons tB (.cons tB .nil))))), by omega, _, .refl _, hq _ f9 d9⟩
    have lamF : ∀ W', Fr d l W W' → LamOk (PtR K) qR W' := fun W' f => f.lam lo (fun z => by obtain ⟨cs, m, n, h1, _⟩ := hD; rw [z, lo.at_] at h1; cases h1) (fun z => by obtain ⟨cs, m, n, _, h1, _⟩ := hD; rw [z, lo.at_] at h1; cases h1)
    dsimp only [wAsg, wTup, wCons, wCB, wVar, wNil, wCall, wLst, wK, wOp, wIf, wTest, List.getElem?_cons_zero, List.getElem?_cons_succ, rGtT, rLtT, rSubT, sp__law_pick]
    have stepB : ∀ (ls ms : List T) (p5 : Addr), ls.length ≤ 1 → ms.length ≤ 1 → (∀ z ∈ ls, BadP x p3 z) → (∀ z ∈ ms, BadP x p3 z) → W3 p5 = none → ∀ p6, updw W3 p5 (.lst ls) p6 = none → ∀ p7, updw (updw W3 p5 (.lst ls)) p6 (.lst (L4 ++ ls)) p7 = none → ∀ p8, updw (updw (updw W3 p5 (.lst ls)) p6 (.lst (L4 ++ ls))) p7 (.lst ms) p8 = none →
        ∃ l' xs, Deck d l' (updw (updw (updw (updw W3 p5 (.lst ls)) p6 (.lst (L4 ++ ls))) p7 (.lst ms)) p8 (.lst (L4 ++ ls ++ ms))) ∧ itemsT (updw (updw (updw (updw W3 p5 (.lst ls)) p6 (.lst (L4 ++ ls))) p7 (.lst ms)) p8 (.lst (L4 ++ ls ++ ms))) (.ref p8) = some xs ∧ (∀ a, T.ref p8 = .ref a → a ≠ d ∧ a ≠ l') ∧ (0 < xs.length ∧ xs.length < 1073741824) ∧
          ∀ y ∈ xs, ∀ W', Fr d l' (updw (updw (updw (updw W3 p5 (.lst ls)) p6 (.lst (L4 ++ ls))) p7 (.lst ms)) p8 (.lst (L4 ++ ls ++ ms))) W' → Deck d l' W' → N3 [some (.ref d), some (.str x), some (.int x.length), some odd, some (.ref p4), some y, none] W' := by
      intro ls ms p5 h1 h2 hb1 hb2 hp5 p6 hp6 p7 hp7 p8 hp8
      have d5 := D3.new (o := .lst ls) hp5
      have d6 := d5.new (o := .lst (L4 ++ ls)) hp6
      have d7 := d6.new (o := .lst ms) hp7
      have d8 := d7.new (o := .lst (L4 ++ ls ++ ms)) hp8
      have o8 := d7.off hp8
      refine ⟨l, _, d8, itemsT_new, fun a e => by cases e; exact o8, ⟨by simp only [List.length_append]; omega, by simp only [List.length_append]; omega⟩, fun y hy W' f DW => ?_⟩
      have gw : Fr d l W W' := (((g3.trans (Fr.new hp5 rfl)).trans (Fr.new hp6 rfl)).trans ((Fr.new hp7 rfl).trans (Fr.new hp8 rfl))).trans f
      refine fin y W' ?_ (f.old p1 _ o1.1 o1.2 (upd_at (upd_at (upd_at (upd_at hW3p1 hp5) hp6) hp7) hp8)) (f.old p3 _ o3.1 o3.2 (upd_at (upd_at (upd_at (upd_at hW3p3 hp5) hp6) hp7) hp8)) gw (lamF W' gw) DW
      rcases List.mem_append.mp hy with h | h
      · rcases List.mem_append.mp h with h | h
        · exact hP4 y h
        · exact hb1 y h
      · exact hb2 y h
    have b1 : ∀ z ∈ [T.tup [T.int 1, T.int 0, T.str ""]], BadP x p3 z := fun z hz => bad_list (List.mem_append_right [T.non, T.tup [], T.tup [T.int 0, T.int 0], T.tup [T.int 0, T.int 0, T.str "", T.int 0],
                T.ref p3, T.tup [T.int 0, T.int ((x.length : Int) + 1), T.str ""],
                T.tup [T.int ((x.length : Int) + 1), T.int ((x.length : Int) + 1), T.str "x"],
                T.tup [T.int (-1), T.int 0, T.str ""], T.tup [T.int 0, T.int (-1), T.str ""],
                T.tup [T.bl true, T.int (x.length : Int), T.str "x"],
                T.tup [T.int 0, T.bl false, T.str "x"],
                T.tup [T.str "0", T.int 0, T.str ""], T.tup [T.int 0, T.int 0, T.non],
                T.tup [T.int 0, T.int 0, T.int 7], T.tup [T.int 0, T.int 0, T.tup [T.str "x"]],
                T.tup [T.non, T.int 0, T.str ""], T.tup [T.str "", T.int 0, T.int 0]] (List.mem_append_left [T.tup [T.int (x.length : Int), T.int ((x.length : Int) - 1), T.str ""]] hz))
    have b2 : ∀ z ∈ [T.tup [T.int (x.length : Int), T.int ((x.length : Int) - 1), T.str ""]], BadP x p3 z := fun z hz => bad_list (List.mem_append_right [T.non, T.tup [], T.tup [T.int 0, T.int 0], T.tup [T.int 0, T.int 0, T.str "", T.int 0],
                T.ref p3, T.tup [T.int 0, T.int ((x.length : Int) + 1), T.str ""],
                T.tup [T.int ((x.length : Int) + 1), T.int ((x.length : Int) + 1), T.str "x"],
                T.tup [T.int (-1), T.int 0, T.str ""], T.tup [T.int 0, T.int (-1), T.str ""],
                T.tup [T.bl true, T.int (x.length : Int), T.str "x"],
                T.tup [T.int 0, T.bl false, T.str "x"],
                T.tup [T.str "0", T.int 0, T.str ""], T.tup [T.int 0, T.int 0, T.non],
                T.tup [T.int 0, T.int 0, T.int 7], T.tup [T.int 0, T.int 0, T.tup [T.str "x"]],
                T.tup [T.non, T.int 0, T.str ""], T.tup [T.str "", T.int 0, T.int 0]] (List.mem_append_right [T.tup [T.int 1, T.int 0, T.str ""]] hz))
    by_cases hn : (0 : Int) < (x.length : Int)
    · rw [if_pos (by simpa using hn)]
      refine ⟨by rw [sizeLine_eq]; simp, by rw [sizeLine_eq]; simp, fun p5 hp5 => add_lists (upd_at hp4' hp5) updw_same (by rw [hL4, sizeLine_eq]; simp) fun p6 hp6 => ⟨by rw [sizeLine_eq]; simp, by rw [sizeLine_eq]; simp, fun p7 hp7 => add_lists (upd_at updw_same hp7) updw_same (by rw [List.length_append, hL4, sizeLine_eq]; simp) fun p8 hp8 => ?_⟩⟩
      exact stepB _ _ p5 (by simp) (by simp) b1 b2 hp5 p6 hp6 p7 hp7 p8 hp8
    · rw [if_neg (by simpa using hn)]
      refine ⟨by rw [sizeLine_eq]; simp, fun p5 hp5 => add_lists (upd_at hp4' hp5) updw_same (by rw [hL4, sizeLine_eq]; simp) fun p6 hp6 => ⟨by rw [sizeLine_eq]; simp, by rw [sizeLine_eq]; simp, fun p7 hp7 => add_lists (upd_at updw_same hp7) updw_same (by rw [List.length_append, hL4, sizeLine_eq]; simp) fun p8 hp8 => ?_⟩⟩
      exact stepB _ _ p5 (by simp) (by simp) (fun z hz => by cases hz) b2 hp5 p6 hp6 p7 hp7 p8 hp8
abbrev N_law : List Str := ["script", "deck", "turn", "text", "stands", "backs", "go", "here", "start", "stop", "new", "edit", "due", "back", "told", "was"]
theorem sc_law : FnScope N_law ["script"] (defScope s_law) := ⟨rfl, rfl, rfl, by decide +kernel, rfl, by decide +kernel, by decide +kernel⟩
theorem ok_law (F : Fs K mg) (C__law_are_refused : Cal P w K mg base 8 "_law_are_refused" s__law_are_refused ["deck", "text"] (sp__law_are_refused K)) (C__law_pick : Cal P w K mg base 2 "_law_pick" s__law_pick ["deck", "some"] sp__law_pick) (C__law_same : Cal P w K mg base 1 "_law_same" s__law_same ["told", "due"] sp__law_same) (C_edited : Cal P w K mg base 5 "edited" s_edited ["text", "edit"] (sp_edited K)) (C__law_draw : Cal P w K mg base 1 "_law_draw" s__law_draw ["deck", "many"] sp__law_draw) (C_undo_of : Cal P w K mg base 5 "undo_of" s_undo_of ["text", "edit"] (sp_undo_of K)) (C__law_an_edit : Cal P w K mg base 4 "_law_an_edit" s__law_an_edit ["deck", "text"] sp__law_an_edit) (C__law_some_text : Cal P w K mg base 3 "_law_some_text" s__law_some_text ["deck", "most"] sp__law_some_text) (C__law_deck : Cal P w K mg base 1 "_law_deck" s__law_deck ["script", "seed"] sp__law_deck) : Cal P w K mg base 9 "law" s_law ["script"] (sp_law K) := by
  obtain ⟨fd, Fn⟩ := F.f_law
  refine ⟨_, fd, F.g_law, Fn, Fn.binds (fun _ _ _ _ _ _ us hl => match us, hl with | [_], _ => rfl), FnT.ok (k := 8) Fn sc_law ?len (fun cdv A outer s H E hr => (ls_cons (s_set 1 sc_law.nd (w_cal C__law_deck hr (takes_of rfl rfl rfl rfl) (la_cons (w_var 0) (la_cons w_int la_nil)))) (ls_cons (s_for (passes_of rfl) rfl (i_range1 F.n_range (la_cons w_int la_nil)) (g_name 2 sc_law.nd) (ls_cons (s_set 3 sc_law.nd (w_cal C__law_some_text hr (takes_of rfl rfl rfl rfl) (la_cons (w_var 1) (la_cons (w_cal C__law_pick hr (takes_of rfl rfl rfl rfl) (la_cons (w_var 1) (la_cons (w_lst (la_cons w_int (la_cons w_int (la_cons w_int (la_cons w_int la_nil))))) la_nil))) la_nil)))) (ls_cons (s_par 4 5 sc_law.nd (la_cons (w_lst (la_cons (w_var 3) la_nil)) (la_cons (w_lst la_nil) la_nil))) (ls_cons (s_for (passes_of rfl) rfl (i_range1 F.n_range (la_cons (w_op ot_add w_int (w_cal C__law_draw hr (takes_of rfl rfl rfl rfl) (la_cons (w_var 1) (la_cons w_int la_nil)))) la_nil)) (g_name 6 sc_law.nd) (ls_cons (s_set 7 sc_law.nd (w_ix (w_var 4) (w_neg w_int))) (ls_cons (s_asg (w_cal C__law_an_edit hr (takes_of rfl rfl rfl rfl) (la_cons (w_var 1) (la_cons (w_var 7) la_nil))) (g_tup rfl (gs_cons (g_name 8 sc_law.nd) (gs_cons (g_name 9 sc_law.nd) (gs_cons (g_name 10 sc_law.nd) gs_nil))))) (ls_cons (s_set 11 sc_law.nd (w_tup (la_cons (w_var 8) (la_cons (w_var 9) (la_cons (w_var 10) la_nil))))) (ls_cons (s_par 12 13 sc_law.nd (la_cons (w_op ot_add (w_op ot_add (w_slice (w_var 7) lo_none (lo_some (w_var 8))) (w_var 10)) (w_slice (w_var 7) (lo_some (w_var 9)) lo_none)) (la_cons (w_tup (la_cons (w_var 8) (la_cons (w_op ot_add (w_var 8) (w_callB ct_len F.n_len PyProof.Rows.bootS_len (la_cons (w_var 10) la_nil))) (la_cons (w_slice (w_var 7) (lo_some (w_var 8)) (lo_some (w_var 9))) la_nil)))) la_nil))) (ls_cons (s_set 14 sc_law.nd (w_lst (la_cons (w_cal C_edited hr (takes_of rfl rfl rfl rfl) (la_cons (w_var 7) (la_cons (w_var 11) la_nil))) (la_cons (w_calK (is := [1, 0]) (ks := ["edit", "text"]) C_edited hr (takes_of rfl rfl rfl rfl) kb_edited_1_0 (lk_cons (w_var 11) (lk_cons (w_var 7) lk_nil))) (la_cons (w_cal C_undo_of hr (takes_of rfl rfl rfl rfl) (la_cons (w_var 7) (la_cons (w_var 11) la_nil))) (la_cons (w_calK (is := [1, 0]) (ks := ["edit", "text"]) C_undo_of hr (takes_of rfl rfl rfl rfl) kb_undo_of_1_0 (lk_cons (w_var 11) (lk_cons (w_var 7) lk_nil))) la_nil)))))) (ls_cons (s_if (lt_w (lw_or (lt_not (lt_val (w_cal C__law_same hr (takes_of rfl rfl rfl rfl) (la_cons (w_var 14) (la_cons (w_lst (la_cons (w_var 12) (la_cons (w_var 12) (la_cons (w_var 13) (la_cons (w_var 13) la_nil))))) la_nil))))) (lw_or1 (lt_not (lt_val (w_cal C__law_same hr (takes_of rfl rfl rfl rfl) (la_cons (w_lst (la_cons (w_cal C_edited hr (takes_of rfl rfl rfl rfl) (la_cons (w_var 12) (la_cons (w_var 13) la_nil))) (la_cons (w_cal C_undo_of hr (takes_of rfl rfl rfl rfl) (la_cons (w_var 12) (la_cons (w_var 13) la_nil))) la_nil))) (la_cons (w_lst (la_cons (w_var 7) (la_cons (w_var 11) la_nil))) la_nil)))))))) (ls_one (s_ret w_bl)) ls_nil) (ls_cons (s_expr (w_bm PySem.F.plainAttrs_list PySem.F.slot_list_append PySem.F.type_list_append mtt_append (w_var 4) (la_cons (w_var 12) la_nil))) (ls_one (s_expr (w_bm PySem.F.plainAttrs_list PySem.F.slot_list_append PySem.F.type_list_append mtt_append (w_var 5) (la_cons (w_var 13) la_nil)))))))))))) (ls_cons (s_set 7 sc_law.nd (w_ix (w_var 4) (w_neg w_int))) (ls_cons (s_for (passes_of rfl) rfl (i_zip F.n_zip (la_cons (w_rev (w_slice (w_var 4) lo_none (lo_some (w_neg w_int)))) (la_cons (w_rev (w_var 5)) la_nil))) (g_tup rfl (gs_cons (g_name 15 sc_law.nd) (gs_cons (g_name 13 sc_law.nd) gs_nil))) (ls_cons (s_set 7 sc_law.nd (w_cal C_edited hr (takes_of rfl rfl rfl rfl) (la_cons (w_var 7) (la_cons (w_var 13) la_nil)))) (ls_one (s_if (lt_not (lt_val (w_cal C__law_same hr (takes_of rfl rfl rfl rfl) (la_cons (w_var 7) (la_cons (w_var 15) la_nil))))) (ls_one (s_ret w_bl)) ls_nil)))) (ls_one (s_if (lt_not (lt_val (w_cal C__law_are_refused hr (takes_of rfl rfl rfl rfl) (la_cons (w_var 1) (la_cons (w_cal C__law_pick hr (takes_of rfl rfl rfl rfl) (la_cons (w_var 1) (la_cons (w_var 4) la_nil))) la_nil))))) (ls_one (s_ret w_bl)) ls_nil)))))))) (ls_one (s_ret w_bl))))) ?sem⟩
  case len => intro ws W R E h; unfold sp_law at h; split at h <;> first | rfl | exact h.elim
  case sem =>
    intro ws W R E h
    unfold sp_law at h
    split at h <;> try exact h.elim
    rename_i t
    obtain ⟨ns, hk, hlen, lo, hq⟩ := h
    rw [show startw N_law [t] = [some t, none, none, none, none, none, none, none, none, none, none, none, none, none, none, none] from rfl]
    refine seq_gen fun N1 hN1 => ?_
    dsimp only [wAsg, wCall, wCons, wVar, wK, wNil, List.getElem?_cons_zero, sp__law_deck]
    refine ⟨ns, hk, hlen, fun d l W0 hd hl hold htab D0 => ?_⟩
    have lo0 : LamOk (PtR K) qR W0 := ⟨hold _ _ lo.at_, fun a q' e => lo.one a q' (htab a _ e rfl), fun a q' H0 e => lo.cod a q' H0 (htab a _ e rfl)⟩
    show N1 [some t, some (.ref d), none, none, none, none, none, none, none, none, none, none, none, none, none, none] W0
    rw [hN1]
    clear hN1 N1 hold htab
    refine seq_gen fun N2 hN2 => ?_
    dsimp only [wFor, wRng1, wCons, wK, wNil]
    refine ⟨⟨by decide, by decide⟩, ?_⟩
    unfold rangeT
    refine forGo_inv (fun i : Nat => T.int (0 + (i : Int))) (fun r τ W' => Deck d l W' ∧ LamOk (PtR K) qR W' ∧ ∃ x2 x3 x4 x5 x6 x7 x8 x9 x10 x11 x12 x13 x14 x15 : Option T, τ = [some t, some (.ref d), x2, x3, x4, x5, x6, x7, x8, x9, x10, x11, x12, x13, x14, x15]) (fun i r τ W1 hI => ?_) (fun τ W1 hI => ⟨trivial, ?_⟩) _ _ _ ⟨D0, lo0, none, none, none, none, none, none, none, none, none, none, none, none, none, none, rfl⟩
    rotate_left
    · rw [hN2]
      obtain ⟨_, _, _, _, _, _, _, _, _, _, _, _, _, _, _, _, rfl⟩ := hI
      exact ⟨W1, .refl _, hq W1⟩
    obtain ⟨D1, lo1, x2, x3, x4, x5, x6, x7, x8, x9, x10, x11, x12, x13, x14, x15, rfl⟩ := hI
    refine ⟨trivial, _, rfl, fun N hN => ?_⟩
    clear hN2 D0 lo0
    dsimp only [List.set_cons_zero, List.set_cons_succ]
    refine seq_gen fun N3 hN3 => ?_
    dsimp only [wAsg, wCall, wCons, wVar, wK, wNil, wLst, List.getElem?_cons_zero, List.getElem?_cons_succ, sp__law_pick, sp__law_some_text]
    refine ⟨by rw [sizeLine_eq]; simp, fun p1 hp1 => ⟨l, _, D1.new hp1, itemsT_new, fun a e => by cases e; exact D1.off hp1, ⟨by simp, by simp⟩, fun most hm W2 f2 D2 => ?_⟩⟩
    obtain ⟨k, rfl, hk1, hk2⟩ : ∃ k : Int, most = .int k ∧ 1 ≤ k ∧ k ≤ 40 := by
      simp only [List.mem_cons, List.not_mem_nil, or_false] at hm
      rcases hm with h | h | h | h <;> exact ⟨_, h, by decide, by decide⟩
    refine ⟨l, D2, ⟨by omega, by omega⟩, fun x W3 hx hxl f3 D3 => ?_⟩
    have lo3 : LamOk (PtR K) qR W3 := ((Fr.new hp1 rfl).trans (f2.trans f3)).lamD D1 lo1
    show N3 [some t, some (.ref d), some (.int (0 + (i : Int))), some (.str x), x4, x5, x6, x7, x8, x9, x10, x11, x12, x13, x14, x15] W3
    rw [hN3]
    clear hN3 N3 hm hp1 f2 f3 D2 W2 lo1 D1
    refine seq_gen fun N4 hN4 => ?_
    dsimp only [wPar, wCons, wVar, wNil, wLst, List.getElem?_cons_zero, List.getElem?_cons_succ]
    refine ⟨by rw [sizeLine_eq]; simp, fun ps hps => ⟨by rw [sizeLine_eq]; simp, fun pb hpb => ?_⟩⟩
    have ops := D3.off hps
    have D4 := D3.new (o := .lst [.str x]) hps
    have opb := D4.off hpb
    have nps : ps ≠ pb := fun z => by rw [← z, updw_same] at hpb; cases hpb
    have hs4 : (updw (updw W3 ps (.lst [.str x])) pb (.lst [])) ps = some (.lst [.str x]) := upd_at updw_same hpb
    have hb4 : (updw (updw W3 ps (.lst [.str x])) pb (.lst [])) pb = some (.lst []) := updw_same
    have lo4 := (lo3.new (o := .lst [.str x]) hps rfl).new (o := .lst []) hpb rfl
    have D5 := D4.new (o := .lst []) hpb
    generalize updw (updw W3 ps (.lst [.str x])) pb (.lst []) = W4 at hs4 hb4 lo4 D5 ⊢
    show N4 [some t, some (.ref d), some (.int (0 + (i : Int))), some (.str x), some (.ref ps), some (.ref pb), x6, x7, x8, x9, x10, x11, x12, x13, x14, x15] W4
    rw [hN4]
    clear hN4 N4 hps hpb D4 D3 lo3
    refine seq_gen fun N5 hN5 => ?_
    dsimp only [wFor, wRng1, wOp, wCall, wCons, wVar, wK, wNil, List.getElem?_cons_zero, List.getElem?_cons_succ, rAddT, sp__law_draw]
    refine ⟨l, D5, ⟨by decide, by decide⟩, fun r W5 r0 r1 f5 D6 => ⟨⟨by rw [two62]; omega, by rw [two62]; omega⟩, ?_⟩⟩
    have hs5 := f5.old ps _ ops.1 ops.2 hs4
    have hb5 := f5.old pb _ opb.1 opb.2 hb4
    have lo5 := f5.lamD D5 lo4
    unfold rangeT
    refine forGo_inv (fun i : Nat => T.int (0 + (i : Int))) (fun rem τ W' => ∃ (R : List (Str × T)) (top : Str), Deck d l W' ∧ LamOk (PtR K) qR W' ∧ W' ps = some (.lst ((R.map fun p => T.str p.1).reverse ++ [T.str top])) ∧ W' pb = some (.lst (R.map (·.2)).reverse) ∧ Chain top R ∧ textB (.str top) = true ∧ top.length ≤ 80 + 16 * R.length ∧ rem.length + R.length ≤ 6 ∧
        ∃ x2 x6 x7 x8 x9 x10 x11 x12 x13 x14 x15 : Option T, τ = [some t, some (.ref d), x2, some (.str x), some (.ref ps), some (.ref pb), x6, x7, x8, x9, x10, x11, x12, x13, x14, x15]) (fun j rem τ W6 hI => ?_) (fun τ W6 hI => ⟨trivial, ?_⟩) _ _ _ ⟨[], x, D6, lo5, hs5, hb5, trivial, hx, by simp; omega, by simp; omega, _, _, _, _, _, _, _, _, _, _, _, rfl⟩
    · obtain ⟨Rv, top, D7, lo6, hs6, hb6, hch, htop, htl, hrem, y2, y6, y7, y8, y9, y10, y11, y12, y13, y14, y15, rfl⟩ := hI
      simp only [List.length_cons] at hrem
      have htl2 : top.length ≤ 180 := by omega
      refine ⟨trivial, _, rfl, fun M hM => ?_⟩
      dsimp only [List.set_cons_zero, List.set_cons_succ]
      refine seq_gen fun M1 hM1 => ?_
      dsimp only [wAsg, wOp, wVar, List.getElem?_cons_zero, List.getElem?_cons_succ]
      refine rIx_last hs6 ?_
      show M1 [some t, some (.ref d), y2, some (.str x), some (.ref ps), some (.ref pb), some (.int (0 + (j : Int))), some (.str top), y8, y9, y10, y11, y12, y13, y14, y15] W6
      rw [hM1]
      clear hM1 M1
      refine seq_gen fun M2 hM2 => ?_
      dsimp only [wAsg, wCall, wCons, wVar, wNil, List.getElem?_cons_zero, List.getElem?_cons_succ, sp__law_an_edit]
      refine ⟨l, D7, htop, by omega, fun a b n W7 hab hn hnl f7 D8 => ?_⟩
      have hs7 := f7.old ps _ ops.1 ops.2 hs6
      have hb7 := f7.old pb _ opb.1 opb.2 hb6
      have lo7 := f7.lamD D7 lo6
      show M2 [some t, some (.ref d), y2, some (.str x), some (.ref ps), some (.ref pb), some (.int (0 + (j : Int))), some (.str top), some (.int a), some (.int b), some (.str n), y11, y12, y13, y14, y15] W7
      rw [hM2]
      clear hM2 M2 f7 hs6 hb6 lo6 D7 W6
      refine seq_gen fun M3 hM3 => ?_
      dsimp only [wAsg, wTup, wCons, wVar, wNil, List.getElem?_cons_zero, List.getElem?_cons_succ]
      refine ⟨by rw [sizeLine_eq]; simp, ?_⟩
      show M3 [some t, some (.ref d), y2, some (.str x), some (.ref ps), some (.ref pb), some (.int (0 + (j : Int))), some (.str top), some (.int a), some (.int b), some (.str n), some (.tup [.int a, .int b, .str n]), y12, y13, y14, y15] W7
      rw [hM3]
      clear hM3 M3
      refine seq_gen fun M4 hM4 => ?_
      obtain ⟨l1, l2⟩ := behind_len hab.1 hab.2.1 hab.2.2
      obtain ⟨c1, c2⟩ := cut_mid_ok hab.1 hab.2.1 hab.2.2 htop
      obtain ⟨u1, u2, u3⟩ := undo_ok (n := n) hab.1 hab.2.1 hab.2.2
      dsimp only [wPar, wTup, wOp, wCB, wSl, wPart, wNoPart, wCons, wVar, wNil, List.getElem?_cons_zero, List.getElem?_cons_succ, rSlT, rAddT, rLen]
      refine ⟨by rw [sizeLine_eq]; omega, by rw [l1, sizeLine_eq]; omega, by rw [sizeLine_eq]; omega, by rw [str_len_cat, l1, l2, sizeLine_eq]; omega, by rw [sizeLine_eq]; omega, by rw [sizeLine_eq]; omega, by rw [sizeLine_eq]; simp, ?_⟩
      show M4 [some t, some (.ref d), y2, some (.str x), some (.ref ps), some (.ref pb), some (.int (0 + (j : Int))), some (.str top), some (.int a), some (.int b), some (.str n), some (.tup [.int a, .int b, .str n]), some (.str (behindS top a b n)), some (.tup [.int a, .int (a + (n.length : Int)), .str (cutS top (some a) (some b))]), y14, y15] W7
      rw [hM4]
      clear hM4 M4
      have hdue : textB (.str (behindS top a b n)) = true := by
        unfold behindS
        rw [textB_cat, textB_cat, cut_lo_ok hab.1 (by omega) htop, hn, cut_hi_ok (by omega) hab.2.2 htop]; rfl
      generalize hcut : cutS top (some a) (some b) = cut at c1 c2 u3 ⊢
      generalize hdu : behindS top a b n = due at u1 u2 u3 hdue ⊢
      have hcl : cut.length ≤ 1000 := by omega
      have hdl : due.length ≤ 1000 := by omega
      refine seq_gen fun M5 hM5 => ?_
      dsimp only [wAsg, wLst, wCons, wNil]
      refine call2 rfl rfl (spE_ok (by omega) htop hab.1 hab.2.1 hab.2.2 hn (by omega) ?_)
      refine callK2 rfl rfl (spE_ok (by omega) htop hab.1 hab.2.1 hab.2.2 hn (by omega) ?_)
      refine call2 rfl rfl (spE_ok (by omega) htop hab.1 hab.2.1 hab.2.2 hn (by omega) ?_)
      refine callK2 rfl rfl (spE_ok (by omega) htop hab.1 hab.2.1 hab.2.2 hn (by omega) ?_)
      rw [hcut, hdu]
      refine ⟨by rw [sizeLine_eq]; simp, fun p8 hp8 => ?_⟩
      show M5 [some t, some (.ref d), y2, some (.str x), some (.ref ps), some (.ref pb), some (.int (0 + (j : Int))), some (.str top), some (.int a), some (.int b), some (.str n), some (.tup [.int a, .int b, .str n]), some (.str due), some (.tup [.int a, .int (a + (n.length : Int)), .str cut]), some (.ref p8), y15] _
      rw [hM5]
      clear hM5 M5
      have hs8 := upd_at (u := .lst [T.str due, T.str due, T.tup [.int a, .int (a + (n.length : Int)), .str cut], T.tup [.int a, .int (a + (n.length : Int)), .str cut]]) hs7 hp8
      have hb8 := upd_at (u := .lst [T.str due, T.str due, T.tup [.int a, .int (a + (n.length : Int)), .str cut], T.tup [.int a, .int (a + (n.length : Int)), .str cut]]) hb7 hp8
      have lo8 := lo7.new (o := .lst [T.str due, T.str due, T.tup [.int a, .int (a + (n.length : Int)), .str cut], T.tup [.int a, .int (a + (n.length : Int)), .str cut]]) hp8 rfl
      have D9 := D8.new (o := .lst [T.str due, T.str due, T.tup [.int a, .int (a + (n.length : Int)), .str cut], T.tup [.int a, .int (a + (n.length : Int)), .str cut]]) hp8
      have h88 : (updw W7 p8 (.lst [T.str due, T.str due, T.tup [.int a, .int (a + (n.length : Int)), .str cut], T.tup [.int a, .int (a + (n.length : Int)), .str cut]])) p8 = some (.lst [T.str due, T.str due, T.tup [.int a, .int (a + (n.length : Int)), .str cut], T.tup [.int a, .int (a + (n.length : Int)), .str cut]]) := updw_same
      generalize updw W7 p8 (.lst [T.str due, T.str due, T.tup [.int a, .int (a + (n.length : Int)), .str cut], T.tup [.int a, .int (a + (n.length : Int)), .str cut]]) = W8 at hs8 hb8 lo8 D9 h88 ⊢
      clear hs7 hb7 lo7 D8 hp8
      refine seq_gen fun M6 hM6 => ?_
      dsimp only [wIfS, wOrT, wNotT, wTest, wCall, wLst, wCons, wVar, wNil, List.getElem?_cons_zero, List.getElem?_cons_succ, sp__law_same]
      have tb : ∀ W' : Hw, Sm W' (1 + (1 + (1 + 0)) + 1) (T.tup [.int a, .int (a + (n.length : Int)), .str cut]) (T.tup [.int a, .int (a + (n.length : Int)), .str cut]) := fun W' => .tup (.cons (.int _) (.cons (.int _) (.cons (.str _) .nil)))
      refine ⟨by rw [sizeLine_eq]; simp, fun p9 hp9 => ⟨_, .lst (upd_at h88 hp9) updw_same (.cons (.str due) (.cons (.str due) (.cons (tb _) (.cons (tb _) .nil)))), by decide, ?_⟩⟩
      rw [if_neg (by decide)]
      have hs9 := upd_at (u := .lst [T.str due, T.str due, T.tup [.int a, .int (a + (n.length : Int)), .str cut], T.tup [.int a, .int (a + (n.length : Int)), .str cut]]) hs8 hp9
      have hb9 := upd_at (u := .lst [T.str due, T.str due, T.tup [.int a, .int (a + (n.length : Int)), .str cut], T.tup [.int a, .int (a + (n.length : Int)), .str cut]]) hb8 hp9
      have lo9 := lo8.new (o := .lst [T.str due, T.str due, T.tup [.int a, .int (a + (n.length : Int)), .str cut], T.tup [.int a, .int (a + (n.length : Int)), .str cut]]) hp9 rfl
      have D10 := D9.new (o := .lst [T.str due, T.str due, T.tup [.int a, .int (a + (n.length : Int)), .str cut], T.tup [.int a, .int (a + (n.length : Int)), .str cut]]) hp9
      generalize updw W8 p9 (.lst [T.str due, T.str due, T.tup [.int a, .int (a + (n.length : Int)), .str cut], T.tup [.int a, .int (a + (n.length : Int)), .str cut]]) = W9 at hs9 hb9 lo9 D10 ⊢
      clear hs8 hb8 lo8 D9 h88 hp9
      refine spE_ok (by omega) hdue hab.1 (by omega) (by omega) c1 (by omega) ?_
      refine spE_ok (by omega) hdue hab.1 (by omega) (by omega) c1 (by omega) ?_
      rw [u3, u2, show a + (cut.length : Int) = b by omega]
      refine ⟨by rw [sizeLine_eq]; simp, fun p10 hp10 => ⟨by rw [sizeLine_eq]; simp, fun p11 hp11 => ⟨_, .lst (upd_at updw_same hp11) updw_same (.cons (.str top) (.cons (.tup (.cons (.int a) (.cons (.int b) (.cons (.str n) .nil)))) .nil)), by decide, ?_⟩⟩⟩
      rw [if_neg (by decide)]
      have hs11 := upd_at (u := .lst [T.str top, T.tup [.int a, .int b, .str n]]) (upd_at (u := .lst [T.str top, T.tup [.int a, .int b, .str n]]) hs9 hp10) hp11
      have hb11 := upd_at (u := .lst [T.str top, T.tup [.int a, .int b, .str n]]) (upd_at (u := .lst [T.str top, T.tup [.int a, .int b, .str n]]) hb9 hp10) hp11
      have lo11 := (lo9.new (o := .lst [T.str top, T.tup [.int a, .int b, .str n]]) hp10 rfl).new (o := .lst [T.str top, T.tup [.int a, .int b, .str n]]) hp11 rfl
      have D12 := (D10.new (o := .lst [T.str top, T.tup [.int a, .int b, .str n]]) hp10).new (o := .lst [T.str top, T.tup [.int a, .int b, .str n]]) hp11
      generalize updw (updw W9 p10 (.lst [T.str top, T.tup [.int a, .int b, .str n]])) p11 (.lst [T.str top, T.tup [.int a, .int b, .str n]]) = W11 at hs11 hb11 lo11 D12 ⊢
      clear hs9 hb9 lo9 D10 hp10 hp11
      show M6 _ _
      rw [hM6]
      clear hM6 M6
      refine wseq_of (drop_append (i := 4) rfl hs11 (by rw [List.length_append, List.length_reverse, List.length_map, sizeLine_eq]; simp; omega) (fun R E h => h) ?_)
      dsimp only
      have hb12 : (updw W11 ps (.lst ((Rv.map fun p => T.str p.1).reverse ++ [T.str top] ++ [T.str due]))) pb = some (.lst (Rv.map (·.2)).reverse) := by rw [updw_ne (Ne.symm nps)]; exact hb11
      refine drop_append (i := 5) rfl hb12 (by rw [List.length_reverse, List.length_map, sizeLine_eq]; omega) (fun R E h => h) ?_
      refine hM _ _ ⟨(top, T.tup [.int a, .int (a + (n.length : Int)), .str cut]) :: Rv, due, (D12.upd ops.1 ops.2).upd opb.1 opb.2, (lo11.lst hs11 rfl rfl).lst hb12 rfl rfl, ?_, ?_, ⟨⟨htop, by omega⟩, ⟨a, a + (n.length : Int), cut, rfl, ⟨hab.1, by omega, by omega⟩, c1, hcl, u3⟩, hch⟩, hdue, by simp only [List.length_cons]; omega, by simp only [List.length_cons]; omega, _, _, _, _, _, _, _, _, _, _, _, rfl⟩
      · rw [updw_ne nps, updw_same]; simp
      · rw [updw_same]; simp
    · obtain ⟨Rv, top, D7, lo6, hs6, hb6, hch, htop, htl, hrem, y2, y6, y7, y8, y9, y10, y11, y12, y13, y14, y15, rfl⟩ := hI
      have htl2 : top.length ≤ 1000 := by simp at hrem; omega
      have hgood : ∀ y ∈ (Rv.map fun p => T.str p.1).reverse ++ [T.str top], ∃ s, y = .str s ∧ Good s := fun y hy => by
        rcases List.mem_append.mp hy with h | h
        · obtain ⟨p, hp, e⟩ := List.mem_map.mp (List.mem_reverse.mp h)
          exact ⟨p.1, e.symm, hch.good p hp⟩
        · exact ⟨top, List.mem_singleton.mp h, htop, htl2⟩
      have hrl : Rv.length ≤ 6 := by simpa using hrem
      rw [hN5]
      clear hN5 N5 hrem htl
      dsimp only []
      refine seq_gen fun M1 hM1 => ?_
      dsimp only [wAsg, wOp, wVar, List.getElem?_cons_zero, List.getElem?_cons_succ]
      refine rIx_last hs6 ?_
      show M1 [some t, some (.ref d), y2, some (.str x), some (.ref ps), some (.ref pb), y6, some (.str top), y8, y9, y10, y11, y12, y13, y14, y15] W6
      rw [hM1]
      clear hM1 M1
      refine seq_gen fun M2 hM2 => ?_
      dsimp only [wFor, wZipI, wCons, wRev, wSl, wNoPart, wPart, wVar, wNil, List.getElem?_cons_zero, List.getElem?_cons_succ]
      refine rSl_list (kindW_lst hs6) fun p1 hp1 => ?_
      rw [cut_init]
      dsimp only
      rw [itemsT_new]
      refine ⟨trivial, fun p2 hp2 => ?_⟩
      rw [List.reverse_reverse]
      have hbI := upd_at (u := .lst (Rv.map fun p => T.str p.1)) (upd_at (u := .lst (Rv.map fun p => T.str p.1).reverse) hb6 hp1) hp2
      have hbJ : itemsT (updw (updw W6 p1 (.lst (Rv.map fun p => T.str p.1).reverse)) p2 (.lst (Rv.map fun p => T.str p.1))) (T.ref pb) = some (Rv.map (·.2)).reverse := by simp only [itemsT, hbI]
      rw [hbJ]
      refine ⟨trivial, fun p3 hp3 => ?_⟩
      rw [List.reverse_reverse]
      have h2 := upd_at (u := .lst (Rv.map (·.2))) (updw_same (W := updw W6 p1 (.lst (Rv.map fun p => T.str p.1).reverse)) (a := p2) (o := .lst (Rv.map fun p => T.str p.1))) hp3
      have h3 : (updw (updw (updw W6 p1 (.lst (Rv.map fun p => T.str p.1).reverse)) p2 (.lst (Rv.map fun p => T.str p.1))) p3 (.lst (Rv.map (·.2)))) p3 = some (.lst (Rv.map (·.2))) := updw_same
      have hsC := upd_at (u := .lst (Rv.map (·.2))) (upd_at (u := .lst (Rv.map fun p => T.str p.1)) (upd_at (u := .lst (Rv.map fun p => T.str p.1).reverse) hs6 hp1) hp2) hp3
      have loC := ((lo6.new (o := .lst (Rv.map fun p => T.str p.1).reverse) hp1 rfl).new (o := .lst (Rv.map fun p => T.str p.1)) hp2 rfl).new (o := .lst (Rv.map (·.2))) hp3 rfl
      have DC := ((D7.new (o := .lst (Rv.map fun p => T.str p.1).reverse) hp1).new (o := .lst (Rv.map fun p => T.str p.1)) hp2).new (o := .lst (Rv.map (·.2))) hp3
      generalize updw (updw (updw W6 p1 (.lst (Rv.map fun p => T.str p.1).reverse)) p2 (.lst (Rv.map fun p => T.str p.1))) p3 (.lst (Rv.map (·.2))) = WC at h2 h3 hsC loC DC ⊢
      clear hbJ hbI hp1 hp2 hp3 hs6 hb6 lo6 D7
      refine ⟨_, _, true, _, _, rfl, kindW_lst h2, kindW_lst h3, ?_⟩
      rw [pairsT_map]
      refine forGo_inv (fun p : Str × T => T.tup [.str p.1, p.2]) (fun rem τ W' => W' = WC ∧ ∃ cur, Chain cur rem ∧ Good cur ∧ ∃ z13 z15 : Option T, τ = [some t, some (.ref d), y2, some (.str x), some (.ref ps), some (.ref pb), y6, some (.str cur), y8, y9, y10, y11, y12, z13, y14, z15]) (fun p rem τ W' hI => ?_) (fun τ W' hI => ?_) _ _ _ ⟨rfl, top, hch, ⟨htop, htl2⟩, _, _, rfl⟩
      · obtain ⟨rfl, cur, hch, hg, z13, z15, rfl⟩ := hI
        obtain ⟨s, b⟩ := p
        have hch' : Good s ∧ Step cur b s ∧ Chain s rem := hch
        obtain ⟨hgs, ⟨a, c, m, rfl, hab, hm, hml, hs⟩, hch2⟩ := hch'
        have hg2 := hg.2
        refine ⟨⟨kindW_lst h2, kindW_lst h3⟩, _, rfl, fun N hN => ?_⟩
        dsimp only [List.set_cons_zero, List.set_cons_succ]
        refine seq_gen fun M3 hM3 => ?_
        dsimp only [wAsg]
        refine call2 rfl rfl (spE_ok (by omega) hg.1 hab.1 hab.2.1 hab.2.2 hm (by omega) ?_)
        rw [hs]
        show M3 [some t, some (.ref d), y2, some (.str x), some (.ref ps), some (.ref pb), y6, some (.str s), y8, y9, y10, y11, y12, some (.tup [.int a, .int c, .str m]), y14, some (.str s)] _
        rw [hM3]
        clear hM3 M3
        dsimp only [wIfS, wNotT, wTest, wCall, wCons, wVar, wNil, List.getElem?_cons_zero, List.getElem?_cons_succ, sp__law_same]
        refine ⟨1, .str s, by decide, ?_⟩
        rw [if_neg (by decide)]
        exact hN _ _ ⟨rfl, s, hch2, hgs, _, _, rfl⟩
      · obtain ⟨rfl, cur, _, _, z13, z15, rfl⟩ := hI
        refine ⟨⟨kindW_lst h2, kindW_lst h3⟩, ?_⟩
        rw [hM2]
        clear hM2 M2
        dsimp only [wIfS, wNotT, wTest, wCall, wCons, wVar, wNil, List.getElem?_cons_zero, List.getElem?_cons_succ, sp__law_pick]
        refine ⟨l, (Rv.map fun p => T.str p.1).reverse ++ [T.str top], DC, by simp only [itemsT, hsC], fun a e => by cases e; exact ops, ⟨by simp, by rw [List.length_append, List.length_reverse, List.length_map, List.length_singleton]; omega⟩, fun y hy W8 f8 D8 => ?_⟩
        obtain ⟨s, rfl, hs⟩ := hgood y hy
        dsimp only [sp__law_are_refused]
        refine ⟨l, D8, hs.1, hs.2, f8.lamD DC loC, fun W9 f9 D9 => ?_⟩
        rw [if_neg (by decide)]
        exact hN _ _ ⟨D9, f9.lamD D8 (f8.lamD DC loC), _, _, _, _, _, _, _, _, _, _, _, _, _, _, rfl⟩
end

end TL.K34

set_option Elab.async false
set_option linter.all false
set_option maxRecDepth 100000
set_option maxHeartbeats 0
namespace TL.K34
open PySem PySem.Spec PyProof.Rows L2 TL
section
variable {P : Program} {w : World} {K : PySem.W.Frag} {mg : Str → Option Value} {base : Heap}
theorem all_law (F : Fs K mg) (TB : LamX.TabB base mg (He.cT K ("_law_are_refused", none)).1 (He.cT K ("_law_are_refused", none)).2) : Cal P w K mg base 9 "law" s_law ["script"] (sp_law K) := by
  have C_is_whole := ok_is_whole (P := P) (w := w) (base := base) F
  have C_is_whole_between := ok_is_whole_between (P := P) (w := w) (base := base) F C_is_whole
  have C_is_tuple_of := ok_is_tuple_of (P := P) (w := w) (base := base) F
  have C_is_sign := ok_is_sign (P := P) (w := w) (base := base) F
  have C_is_text := ok_is_text (P := P) (w := w) (base := base) F C_is_sign
  have C_need_text := ok_need_text (P := P) (w := w) (base := base) F C_is_text
  have C_is_edit := ok_is_edit (P := P) (w := w) (base := base) F C_is_text C_is_whole_between C_is_tuple_of
  have C_need_edit := ok_need_edit (P := P) (w := w) (base := base) F C_is_edit
  have C_text_behind := ok_text_behind (P := P) (w := w) (base := base) F
  have C_edited := ok_edited (P := P) (w := w) (base := base) F C_text_behind C_need_edit C_need_text
  have C_undo_of := ok_undo_of (P := P) (w := w) (base := base) F C_need_edit C_need_text
  have C__law_deck := ok__law_deck (P := P) (w := w) (base := base) F
  have C__law_draw := ok__law_draw (P := P) (w := w) (base := base) F
  have C__law_pick := ok__law_pick (P := P) (w := w) (base := base) F C__law_draw
  have C__law_same := ok__law_same (P := P) (w := w) (base := base) F
  have C__law_some_text := ok__law_some_text (P := P) (w := w) (base := base) F C__law_draw C__law_pick
  have C__law_an_edit := ok__law_an_edit (P := P) (w := w) (base := base) F C__law_some_text C__law_pick C__law_draw
  have C__law_are_refused := ok__law_are_refused (P := P) (w := w) (base := base) F C__law_same C_undo_of C_edited C__law_pick TB
  have C_law := ok_law (P := P) (w := w) (base := base) F C__law_are_refused C__law_pick C__law_same C_edited C__law_draw C_undo_of C__law_an_edit C__law_some_text C__law_deck
  exact C_law
theorem fun_uniq {x q : Str} {st : Stmt} {f : Addr} {fd fd' : FuncData} (a : Fun K x q st f fd) (b : Fun K x q st f fd') : fd' = fd := by
  obtain ⟨oc, od, kV, doc, pm, an, cdv, ct, osl, rfl, lk, hcd⟩ := a.ex
  obtain ⟨oc', od', kV', doc', pm', an', cdv', ct', osl', rfl, lk', hcd'⟩ := b.ex
  rw [lk] at lk'
  injection lk' with e
  injection e with e1 e2 e3 e4
  injection e3 with e5
  exact e5.symm
/-- the script's ints, the empty table: the law's promise -/
theorem low_law {H : Hp} {a : Addr} {xs : List Int} (hl : xs.length ≤ 63) (hP : H (He.cT K ("_law_are_refused", none)).2 = some (.tbl #[])) (hS : SqL K H a (xs.map V.int)) : lowF K (sp_law K) [.ref a] H (fun v _ => v = .bl true) fun _ _ _ => False := by
  have tb : LamX.TabS H (He.cT K ("_law_are_refused", none)).2 ((envOfC "_law_are_refused" (defScope s__law_are_refused) 0 0 .none).qual ++ "<lambda>") := LamX.TabS.nil hP
  rcases sq_cases hS with h | h
  · have hne : a ≠ (He.cT K ("_law_are_refused", none)).2 := fun z => by rw [z, hP] at h; cases h
    refine ⟨[.ref a], updw (updw (fun _ => none) (He.cT K ("_law_are_refused", none)).2 (.tab _)) a (.lst (xs.map T.int)), fun t _ => t = .bl true, fun _ _ _ => False, .cons (by simp only [RelT]) .nil, ?_, ⟨xs, kindW_lst updw_same, hl, ⟨by rw [updw_ne (Ne.symm hne)]; exact updw_same, ?_, ?_⟩, fun _ => rfl⟩, ?_, fun _ _ _ _ _ _ _ _ _ _ z => z.elim⟩
    · intro b o e
      by_cases hb : b = a
      · subst hb
        rw [updw_same] at e; cases e
        exact ⟨_, h, .ints xs⟩
      · rw [updw_ne hb] at e
        by_cases hb2 : b = (He.cT K ("_law_are_refused", none)).2
        · rw [hb2, updw_same] at e; cases e
          rw [hb2]
          exact tb
        · rw [updw_ne hb2] at e; cases e
    · intro b q' e
      by_cases hb : b = a
      · rw [hb, updw_same] at e; cases e
      · rw [updw_ne hb] at e
        by_cases hb2 : b = (He.cT K ("_law_are_refused", none)).2
        · exact hb2
        · rw [updw_ne hb2] at e; cases e
    · intro b q' H0 e
      by_cases hb : b = a
      · rw [hb, updw_same] at e; cases e
      · rw [updw_ne hb] at e
        by_cases hb2 : b = (He.cT K ("_law_are_refused", none)).2
        · rw [hb2, updw_same] at e; cases e
        · rw [updw_ne hb2] at e; cases e
    · rintro v H' ⟨t, W', g, r, p, rfl⟩
      simpa only [RelT] using r
  · refine ⟨[.rol (xs.map T.int)], updw (fun _ => none) (He.cT K ("_law_are_refused", none)).2 (.tab _), fun t _ => t = .bl true, fun _ _ _ => False, .cons (by simp only [RelT]; exact ⟨a, _, rfl, h, .ints xs⟩) .nil, ?_, ⟨xs, rfl, hl, ⟨updw_same, ?_, ?_⟩, fun _ => rfl⟩, ?_, fun _ _ _ _ _ _ _ _ _ _ z => z.elim⟩
    · intro b o e
      by_cases hb2 : b = (He.cT K ("_law_are_refused", none)).2
      · rw [hb2, updw_same] at e; cases e
        rw [hb2]
        exact tb
      · rw [updw_ne hb2] at e; cases e
    · intro b q' e
      by_cases hb2 : b = (He.cT K ("_law_are_refused", none)).2
      · exact hb2
      · rw [updw_ne hb2] at e; cases e
    · intro b q' H0 e
      by_cases hb2 : b = (He.cT K ("_law_are_refused", none)).2
      · rw [hb2, updw_same] at e; cases e
      · rw [updw_ne hb2] at e; cases e
    · rintro v H' ⟨t, W', g, r, p, rfl⟩
      simpa only [RelT] using r
theorem law_at {l : PySem.W.OpenLaw} {w : World} {h : Heap} {mg : Str → Option Value} {f : Addr} (hl : l.prog = l.prog) (X : K.In h) (G : h.Ns mainGlobals mg) (hfa : mg ("law" : Str) = some (.ref f)) (c : He.SaysX fa fn [] tf ex w h K) : LamX.LawAtS l w K (L2.CX l.prog w) 9 63 "script" mg f h := by
  have F := fs_of X G c
  obtain ⟨fd, FD⟩ := c.t.d.defs (d := d_law) (List.mem_of_getElem? (i := 19) rfl)
  have Fn : Fun K "law" "law" s_law (He.ga K "law") fd := fun_of FD
  have e : He.ga K "law" = f := by
    have z := hfa.symm.trans F.g_law
    injection z with z
    injection z with z
    exact z.symm
  have mem : ∀ p ∈ [He.cT K ("_law_are_refused", none)], p = He.cT K ("_law_are_refused", none) := fun p hp => List.mem_singleton.mp hp
  have mt : (("_law_are_refused", none) : He.Defn) ∈ tf := List.mem_singleton.mpr rfl
  refine ⟨fd, [He.cT K ("_law_are_refused", none)], lowF K (sp_law K), fun p hp => ?_, fun p hp => ?_, fun p hp => ?_, fun s u => ?_, fun H a ns hl _ hH hS => ?_, fun base _ _ hT => ?_⟩
  · rw [mem p hp]; exact c.empty _ mt
  · rw [mem p hp]; exact c.out _ mt
  · rw [mem p hp]; exact PySem.W.codeHd_of_K X (c.hd _ mt)
  · exact FunD.bindsA (ps := ["script"]) FD (fun _ _ _ _ _ _ us hl => match us, hl with | [_], _ => rfl) s [u] rfl
  · exact low_law hl (hH _ (List.mem_singleton.mpr rfl)) hS
  · obtain ⟨f', fd', gm, Fn', _, G'⟩ := (all_law (P := l.prog) (w := w) (base := base) F (hT _ (List.mem_singleton.mpr rfl))).ex
    have z := gm.symm.trans F.g_law
    injection z with z
    injection z with z
    subst z
    have e2 := fun_uniq Fn Fn'
    subst e2
    subst e
    exact G'
end
end TL.K34
open PySem PySem.W PySem.Calls PyProof.Rows
theorem PySem.Challenge.cw_everytextread_k34_edits_of_texts_and_the_holds : PySem.Challenge.rw_everytextread_k34_edits_of_texts_and_the.Holds := by
  w_on; o_law
  refine HandSHeadRun.head_any (r := OpenLaw.row PySem.Challenge.rw_everytextread_k34_edits_of_texts_and_the) (q := view (OpenLaw.row PySem.Challenge.rw_everytextread_k34_edits_of_texts_and_the).prog [31]) (H := TL.K34.hk) (ob := TL.K34.ob) (M := 2000) (loose := TL.K34.names) (d := HandSHeadRun.topDef (OpenLaw.row PySem.Challenge.rw_everytextread_k34_edits_of_texts_and_the).prog 31) (kwd := []) TL.K34.ob_eq
    (by kernel_rfl) (fun s => by kernel_rfl) TL.K34.run (by kernel_rfl) (by kernel_rfl) (by kernel_rfl) (by rfl) (by first | assumption | decide +kernel) (by decide +kernel) ⟨rfl, rfl, rfl, rfl, rfl, by decide +kernel⟩ ?hw ?hc
  case hw => w_witness2
  case hc =>
    refine LamX.walk_ofTsE (l := PySem.Challenge.rw_everytextread_k34_edits_of_texts_and_the) (n := 63) (k := 9) (x := "script") (CX := L2.CX (PySem.Challenge.rw_everytextread_k34_edits_of_texts_and_the).prog) rfl (by decide) (by kernel_rfl) ⟨rfl, by decide, by decide⟩ ?F (fun w H s e s' z => z.elim fun a z => by obtain ⟨B, H', cls, d, h⟩ := z; exact h.2.2.2.2.2.2.2)
    intro w mg fa h Y G hmg0
    obtain ⟨K, KX, c⟩ := Y
    have hmg : mg ("law" : PySem.Str) = some (.ref fa) := by
      have e : (HandSHeadRun.topDef (OpenLaw.row PySem.Challenge.rw_everytextread_k34_edits_of_texts_and_the).prog 31).name = ("law" : PySem.Str) := by kernel_rfl
      rw [← e]
      exact hmg0
    exact ⟨K, KX, TL.K34.law_at rfl KX G hmg c⟩


