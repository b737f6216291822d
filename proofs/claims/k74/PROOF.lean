import PyProof.Rows.All
import Wide.All
import OpenK.AllK
import Wide.FinOn
import HandS.ForMost
import HandS.ForExc
import HandS.Lambda
import HandS.TupAny
import HandS.IsInst
import HandS.Wide
import HandS.Iter
import KE.KExcSuper
import HandS.TryMany
import HandS.ExcField
import HandS.ExcIs
import HandS.Small
import HandS.Style
import HandS.NoneIn
import HandS.EndTab
import HandS.EndOwn
import KE.IntTextLaws
import PySem.Challenge.RW_lightfirst_k74_whole_plans_as_texts
set_option Elab.async false
set_option linter.all false
set_option maxRecDepth 100000
set_option autoImplicit false
/-! Ev1: values by content, heaps of mutable objects by number; how they lie on the hand layer's heap. -/
namespace Ev
open PySem PySem.Spec PyProof.Rows L2

/-- a value by its content; ref n: the n-th mutable object -/
inductive PV where
  | non | bl (b : Bool) | int (i : Int) | str (x : Str) | ty (n : String) | gl (x : Str)
  | ref (n : Nat) | tup (xs : List PV) | lst (xs : List PV) | rol (xs : List PV) | dct (ks : List Key) (xs : List PV) | ins (c : Str) (fs : List Str) (xs : List PV) | err (a : Addr) (c : Str) (d : Addr) (fs : List Str) (xs : List PV)
/-- a mutable object -/
inductive PO where
  | lst (xs : List PV) | dct (ks : List Key) (xs : List PV) | ins (c : Str) (fs : List Str) (xs : List PV) | tab (P : Addr) (q : Str)
abbrev PH := List PO
abbrev Ro := List (Option PV)
abbrev Sl := L2.St

/-- the ground: the written part, the module's names -/
structure Gr where
  K : PySem.W.Frag
  mg : Str → Option Value
/-- where the mutable objects lie; what is hidden -/
structure Fo where
  φ : List Addr
  ex : List Addr
def Fr (Φ : Fo) (a : Addr) : Prop := a ∉ Φ.φ ∧ a ∉ Φ.ex

/-- a list, a tuple of the written part -/
def StL (K : PySem.W.Frag) (a : Addr) (xs : List V) : Prop :=
  ∃ (o : Obj) (its : Array Value) (n : Nat), K.lookup a = some o ∧ o.cls = .type "list" ∧ o.dict = none ∧ o.data = .seq its n ∧ its.size ≤ sizeLine ∧ Vals xs its.toList
def StT (K : PySem.W.Frag) (a : Addr) (xs : List V) : Prop :=
  ∃ (o : Obj) (its : Array Value) (n : Nat), K.lookup a = some o ∧ o.cls = .type "tuple" ∧ o.data = .seq its n ∧ its.size ≤ sizeLine ∧ Vals xs its.toList

section
variable (G : Gr) (Φ : Fo) (H : Hp)
mutual
/-- pv lies at v -/
def R : PV → V → Prop
  | .non, v => v = .non
  | .bl b, v => v = .bl b
  | .int i, v => v = .int i
  | .str x, v => v = .str x
  | .ty n, v => v = .ty n
  | .gl x, v => ∃ a, G.mg x = some (.ref a) ∧ v = .ref a
  | .ref n, v => ∃ a, Φ.φ[n]? = some a ∧ v = .ref a
  | .tup xs, v => ∃ a vs, v = .ref a ∧ (Fr Φ a ∧ Rd H a (.tup vs) ∨ StT G.K a vs) ∧ Rs xs vs
  | .lst xs, v => ∃ a vs, v = .ref a ∧ Fr Φ a ∧ H a = some (.lst vs) ∧ Rs xs vs
  | .rol xs, v => ∃ a vs, v = .ref a ∧ (Fr Φ a ∧ Rd H a (.lst vs) ∨ StL G.K a vs) ∧ Rs xs vs
  | .dct ks xs, v => ∃ a kvs, v = .ref a ∧ Fr Φ a ∧ Rd H a (.dK kvs) ∧ kvs.map (·.1) = ks ∧ Rs xs (kvs.map (·.2))
  | .ins c fs xs, v => ∃ a C dx kvs, v = .ref a ∧ G.mg c = some (.ref C) ∧ Fr Φ a ∧ H a = some (.ins C dx kvs) ∧ kvs.map (·.1) = fs ∧ Rs xs (kvs.map (·.2))
  | .err a _ d fs xs, v => v = .ref a ∧ (fs = [] ∨ ∃ kvs, Fr Φ d ∧ H d = some (.xd kvs) ∧ kvs.map (·.1) = fs ∧ Rs xs (kvs.map (·.2)))
def Rs : List PV → List V → Prop
  | [], vs => vs = []
  | x :: xs, vs => ∃ v r, vs = v :: r ∧ R x v ∧ Rs xs r
end
/-- a mutable object lies at a -/
def Ob : PO → Addr → Prop
  | .lst xs, a => ∃ vs, H a = some (.lst vs) ∧ Rs G Φ H xs vs
  | .dct ks xs, a => ∃ kvs, H a = some (.dK kvs) ∧ kvs.map (·.1) = ks ∧ Rs G Φ H xs (kvs.map (·.2))
  | .ins c fs xs, a => ∃ C dx kvs, G.mg c = some (.ref C) ∧ H a = some (.ins C dx kvs) ∧ kvs.map (·.1) = fs ∧ Rs G Φ H xs (kvs.map (·.2))
  | .tab P q, a => a = P ∧ ∃ ps : Array Value, H a = some (.tbl ps) ∧ TriplesOk ps.toList ∧ ∀ (pos : Pos) (cv : Value), codeAmong pos ps.toList = some cv → ∃ c, cv = .ref c ∧ Fr Φ c ∧ H c = some (LamX.CodeO c q)
/-- all of them -/
structure Hr (h : PH) : Prop where
  nd : Φ.φ.Nodup
  len : Φ.φ.length = h.length
  exs : ∀ a ∈ Φ.ex, a ∉ Φ.φ ∧ ∃ vs, H a = some (.lst vs)
  ob : ∀ (n : Nat) (o : PO), h[n]? = some o → ∃ a, Φ.φ[n]? = some a ∧ Ob G Φ H o a
/-- the frame's slots -/
structure Ros (ρ : Ro) (σ : Sl) : Prop where
  len : ρ.length = σ.length
  at_ : ∀ (i : Nat) (p : PV), ρ[i]? = some (some p) → ∃ v, σ[i]? = some (some v) ∧ R G Φ H p v
/-- an exception's own dict -/
def XR (d : Option Addr) (fs : List Str) (xs : List PV) : Prop :=
  (d = none ∧ fs = [] ∧ xs = []) ∨ ∃ e kvs, d = some e ∧ fs ≠ [] ∧ Fr Φ e ∧ H e = some (.xd kvs) ∧ kvs.map (·.1) = fs ∧ Rs G Φ H xs (kvs.map (·.2))
end

/-- no table of codes -/
abbrev Nt (o : HO) : Prop := ∀ ps : Array Value, o ≠ .tbl ps
/-- nothing but a table may lie here -/
abbrev Vd (H : Hp) (a : Addr) : Prop := ∀ o, H a = some o → ¬ Nt o
theorem Vd.of {H : Hp} {a : Addr} (e : H a = none) : Vd H a := fun o q => by rw [e] at q; cases q
/-- what comes of a heap: the mutable ones may change, new ones may come, all else stays -/
structure Ext (Φ : Fo) (H : Hp) (Φ' : Fo) (H' : Hp) : Prop where
  exs : ∀ a ∈ Φ.ex, a ∈ Φ'.ex
  exn : ∀ a ∈ Φ'.ex, a ∉ Φ.ex → a ∉ Φ.φ → Vd H a
  pre : Φ.φ <+: Φ'.φ
  new : ∀ a ∈ Φ'.φ, a ∉ Φ.φ → Vd H a
  keep : ∀ a o, a ∉ Φ.φ → H a = some o → Nt o → H' a = some o

section
variable {G : Gr} {Φ Φ' Φ'' : Fo} {H H' H'' : Hp}
theorem Ext.refl : Ext Φ H Φ H := ⟨fun _ h => h, fun _ h n _ => absurd h n, List.prefix_rfl, fun _ h n => absurd h n, fun _ _ _ h _ => h⟩
theorem Ext.trans (a : Ext Φ H Φ' H') (b : Ext Φ' H' Φ'' H'') : Ext Φ H Φ'' H'' where
  exs := fun c h => b.exs c (a.exs c h)
  exn := fun c h n m => by
    by_cases hc : c ∈ Φ'.ex
    · exact a.exn c hc n m
    · by_cases hf : c ∈ Φ'.φ
      · exact a.new c hf m
      · exact fun o q k => b.exn c h hc hf o (a.keep c o m q k) k
  pre := a.pre.trans b.pre
  new := fun c h n => by
    by_cases hc : c ∈ Φ'.φ
    · exact a.new c hc n
    · exact fun o q k => b.new c h hc o (a.keep c o n q k) k
  keep := fun c o n q k => by
    by_cases hc : c ∈ Φ'.φ
    · exact absurd k (a.new c hc n o q)
    · exact b.keep c o hc (a.keep c o n q k) k
theorem Ext.fr (e : Ext Φ H Φ' H') {a : Addr} {o : HO} (f : Fr Φ a) (h : H a = some o) (k : Nt o := by exact fun _ z => nomatch z) : Fr Φ' a ∧ H' a = some o :=
  ⟨⟨fun z => e.new a z f.1 o h k, fun z => e.exn a z f.2 f.1 o h k⟩, e.keep a o f.1 h k⟩
theorem Ext.ref (e : Ext Φ H Φ' H') {n : Nat} {a : Addr} (h : Φ.φ[n]? = some a) : Φ'.φ[n]? = some a := by
  obtain ⟨t, ht⟩ := e.pre
  rw [← ht, List.getElem?_append_left (List.getElem?_eq_some_iff.mp h).1]; exact h

/-- a map of values that keeps by-content ones -/
structure Mv (Φ : Fo) (H : Hp) (Φ' : Fo) (H' : Hp) : Prop where
  fr : ∀ a o, Fr Φ a → H a = some o → Nt o → Fr Φ' a ∧ H' a = some o
  ref : ∀ (n : Nat) (a : Addr), Φ.φ[n]? = some a → Φ'.φ[n]? = some a
theorem Ext.mv (e : Ext Φ H Φ' H') : Mv Φ H Φ' H' := ⟨fun _ _ f h k => e.fr f h k, fun _ _ h => e.ref h⟩
theorem Mv.rd (e : Mv Φ H Φ' H') {a : Addr} {o : HO} (f : Fr Φ a) (h : Rd H a o) (k : Nt o := by exact fun _ z => nomatch z) : Fr Φ' a ∧ Rd H' a o := by
  rcases h with h | ⟨u, h⟩
  · exact ⟨(e.fr _ _ f h k).1, .inl (e.fr _ _ f h k).2⟩
  · exact ⟨(e.fr _ _ f h fun _ z => nomatch z).1, .inr ⟨u, (e.fr _ _ f h fun _ z => nomatch z).2⟩⟩
mutual
theorem R.mv (e : Mv Φ H Φ' H') : ∀ {p : PV} {v : V}, R G Φ H p v → R G Φ' H' p v
  | .non, _, h => h
  | .bl _, _, h => h
  | .int _, _, h => h
  | .str _, _, h => h
  | .ty _, _, h => h
  | .gl _, _, h => h
  | .ref _, _, h => by
    obtain ⟨a, h1, h2⟩ := h
    exact ⟨a, e.ref _ _ h1, h2⟩
  | .tup _, _, h => by
    obtain ⟨a, vs, h1, h2, h3⟩ := h
    exact ⟨a, vs, h1, h2.imp (fun q => e.rd q.1 q.2) (fun q => q), Rs.mv e h3⟩
  | .lst _, _, h => by
    obtain ⟨a, vs, h1, h2, h3, h4⟩ := h
    have q := e.fr _ _ h2 h3 fun _ z => nomatch z
    exact ⟨a, vs, h1, q.1, q.2, Rs.mv e h4⟩
  | .rol _, _, h => by
    obtain ⟨a, vs, h1, h2, h3⟩ := h
    exact ⟨a, vs, h1, h2.imp (fun q => e.rd q.1 q.2) (fun q => q), Rs.mv e h3⟩
  | .dct _ _, _, h => by
    obtain ⟨a, kvs, h1, h2, h3, h4, h5⟩ := h
    exact ⟨a, kvs, h1, (e.rd h2 h3).1, (e.rd h2 h3).2, h4, Rs.mv e h5⟩
  | .ins _ _ _, _, h => by
    obtain ⟨a, C, dx, kvs, h1, h2, h3, h4, h5, h6⟩ := h
    have q := e.fr _ _ h3 h4 fun _ z => nomatch z
    exact ⟨a, C, dx, kvs, h1, h2, q.1, q.2, h5, Rs.mv e h6⟩
  | .err _ _ _ _ _, _, h => by
    obtain ⟨h1, h2⟩ := h
    refine ⟨h1, h2.imp (fun z => z) fun z => ?_⟩
    obtain ⟨kvs, k1, k2, k3, k4⟩ := z
    have q := e.fr _ _ k1 k2 fun _ z => nomatch z
    exact ⟨kvs, q.1, q.2, k3, Rs.mv e k4⟩
theorem Rs.mv (e : Mv Φ H Φ' H') : ∀ {p : List PV} {v : List V}, Rs G Φ H p v → Rs G Φ' H' p v
  | [], _, h => h
  | _ :: _, _, h => by
    obtain ⟨v, r, h1, h2, h3⟩ := h
    exact ⟨v, r, h1, R.mv e h2, Rs.mv e h3⟩
end
theorem R.ext {p : PV} {v : V} (h : R G Φ H p v) (e : Ext Φ H Φ' H') : R G Φ' H' p v := R.mv e.mv h
theorem Rs.ext {p : List PV} {v : List V} (h : Rs G Φ H p v) (e : Ext Φ H Φ' H') : Rs G Φ' H' p v := Rs.mv e.mv h
theorem Ros.mv {ρ : Ro} {σ : Sl} (h : Ros G Φ H ρ σ) (e : Mv Φ H Φ' H') : Ros G Φ' H' ρ σ :=
  ⟨h.len, fun i p q => let ⟨v, a, b⟩ := h.at_ i p q; ⟨v, a, R.mv e b⟩⟩
theorem Ros.ext {ρ : Ro} {σ : Sl} (h : Ros G Φ H ρ σ) (e : Ext Φ H Φ' H') : Ros G Φ' H' ρ σ := h.mv e.mv
theorem Ros.set {ρ : Ro} {σ : Sl} {p : PV} {v : V} (h : Ros G Φ H ρ σ) (i : Nat) (r : R G Φ H p v) : Ros G Φ H (ρ.set i (some p)) (σ.set i (some v)) := by
  refine ⟨by rw [List.length_set, List.length_set]; exact h.len, fun j q e => ?_⟩
  by_cases hj : i = j
  · subst hj
    have hl : i < ρ.length := by have := (List.getElem?_eq_some_iff.mp e).1; rwa [List.length_set] at this
    rw [List.getElem?_set_self hl] at e
    cases e
    exact ⟨v, by rw [List.getElem?_set_self (by rw [← h.len]; exact hl)], r⟩
  · rw [List.getElem?_set_ne hj] at e ⊢
    exact h.at_ j q e
theorem Rs.length : ∀ {p : List PV} {v : List V}, Rs G Φ H p v → p.length = v.length
  | [], v, h => by rw [show v = [] from h]; rfl
  | _ :: _, _, h => by
    obtain ⟨v, r, rfl, _, h3⟩ := h
    rw [List.length_cons, List.length_cons, Rs.length h3]
theorem Rs.get : ∀ {p : List PV} {v : List V} {i : Nat} {x : PV}, Rs G Φ H p v → p[i]? = some x → ∃ u, v[i]? = some u ∧ R G Φ H x u
  | [], _, _, _, _, e => by simp at e
  | _ :: _, _, 0, _, h, e => by
    obtain ⟨v, r, rfl, h2, _⟩ := h
    simp at e; subst e
    exact ⟨v, rfl, h2⟩
  | _ :: _, _, i + 1, x, h, e => by
    obtain ⟨v, r, rfl, _, h3⟩ := h
    obtain ⟨u, a, b⟩ := Rs.get (i := i) (x := x) h3 (by simpa using e)
    exact ⟨u, by simpa using a, b⟩
theorem Rs.append : ∀ {p q : List PV} {v u : List V}, Rs G Φ H p v → Rs G Φ H q u → Rs G Φ H (p ++ q) (v ++ u)
  | [], _, _, _, h, k => by rw [show _ = [] from h]; exact k
  | _ :: _, _, _, _, h, k => by
    obtain ⟨v, r, rfl, h2, h3⟩ := h
    exact ⟨v, _, rfl, h2, Rs.append h3 k⟩
theorem Rs.take : ∀ {p : List PV} {v : List V} (n : Nat), Rs G Φ H p v → Rs G Φ H (p.take n) (v.take n)
  | _, _, 0, _ => rfl
  | [], _, _ + 1, h => by rw [show _ = [] from h]; rfl
  | _ :: _, _, n + 1, h => by
    obtain ⟨v, r, rfl, h2, h3⟩ := h
    exact ⟨v, _, rfl, h2, Rs.take n h3⟩
theorem Rs.drop : ∀ {p : List PV} {v : List V} (n : Nat), Rs G Φ H p v → Rs G Φ H (p.drop n) (v.drop n)
  | _, _, 0, h => h
  | [], _, _ + 1, h => by rw [show _ = [] from h]; rfl
  | _ :: _, _, n + 1, h => by
    obtain ⟨v, r, rfl, _, h3⟩ := h
    exact Rs.drop n h3
theorem Rs.reverse : ∀ {p : List PV} {v : List V}, Rs G Φ H p v → Rs G Φ H p.reverse v.reverse
  | [], _, h => by rw [show _ = [] from h]; rfl
  | _ :: _, _, h => by
    obtain ⟨v, r, rfl, h2, h3⟩ := h
    rw [List.reverse_cons, List.reverse_cons]
    exact Rs.append (Rs.reverse h3) ⟨v, [], rfl, h2, rfl⟩
theorem Rs.set {x : PV} {u : V} : ∀ {p : List PV} {v : List V} (i : Nat), Rs G Φ H p v → R G Φ H x u → Rs G Φ H (p.set i x) (v.set i u)
  | [], _, _, h, _ => by rw [show _ = [] from h]; rfl
  | _ :: _, _, 0, h, k => by
    obtain ⟨v, r, rfl, _, h3⟩ := h
    exact ⟨u, r, rfl, k, h3⟩
  | _ :: _, _, i + 1, h, k => by
    obtain ⟨v, r, rfl, h2, h3⟩ := h
    exact ⟨v, _, rfl, h2, Rs.set i h3 k⟩
theorem Rs.snoc {p : List PV} {v : List V} {x : PV} {u : V} (h : Rs G Φ H p v) (k : R G Φ H x u) : Rs G Φ H (p ++ [x]) (v ++ [u]) := h.append ⟨u, [], rfl, k, rfl⟩
theorem Rs.replicate {x : PV} {u : V} (k : R G Φ H x u) : ∀ n : Nat, Rs G Φ H (List.replicate n x) (List.replicate n u)
  | 0 => rfl
  | n + 1 => ⟨u, _, rfl, k, Rs.replicate k n⟩
theorem Ob.mv {o : PO} {a : Addr} (h : Ob G Φ H o a) (e : Mv Φ H Φ' H') (he : H' a = H a) : Ob G Φ' H' o a := by
  cases o with
  | lst xs => obtain ⟨vs, h1, h2⟩ := h; exact ⟨vs, he.trans h1, h2.mv e⟩
  | dct ks xs => obtain ⟨kvs, h1, h2, h3⟩ := h; exact ⟨kvs, he.trans h1, h2, h3.mv e⟩
  | ins c fs xs => obtain ⟨C, dx, kvs, h1, h2, h3, h4⟩ := h; exact ⟨C, dx, kvs, h1, he.trans h2, h3, h4.mv e⟩
  | tab P q =>
    obtain ⟨h0, ps, h1, h2, h3⟩ := h
    refine ⟨h0, ps, he.trans h1, h2, fun pos cv hc => ?_⟩
    obtain ⟨c, e1, e2, e3⟩ := h3 pos cv hc
    have q := e.fr _ _ e2 e3 (LamX.codeO_ne)
    exact ⟨c, e1, q.1, q.2⟩
theorem Ob.there {o : PO} {a : Addr} (h : Ob G Φ H o a) : ∃ u, H a = some u := by
  cases o with
  | lst xs => obtain ⟨vs, h1, h2⟩ := h; exact ⟨_, h1⟩
  | dct ks xs => obtain ⟨kvs, h1, h2, h3⟩ := h; exact ⟨_, h1⟩
  | ins c fs xs => obtain ⟨C, dx, kvs, h1, h2, h3, h4⟩ := h; exact ⟨_, h2⟩
  | tab P q => obtain ⟨h0, ps, h1, h2⟩ := h; exact ⟨_, h1⟩
theorem Hr.there {h : PH} (r : Hr G Φ H h) {a : Addr} (m : a ∈ Φ.φ) : ∃ u, H a = some u := by
  obtain ⟨n, hn, e⟩ := List.getElem_of_mem m
  have hl : n < h.length := by rw [← r.len]; exact hn
  obtain ⟨b, hb, o⟩ := r.ob n h[n] (List.getElem?_eq_getElem hl)
  rw [List.getElem?_eq_getElem hn, e] at hb
  cases hb
  exact o.there
theorem Hr.free {h : PH} (r : Hr G Φ H h) {p : Addr} (n : H p = none) : p ∉ Φ.φ := fun m => by
  obtain ⟨u, e⟩ := r.there m
  rw [n] at e; cases e

/-- a new object that is not ours to change: the heap grows -/
theorem Ext.laid {h : PH} (r : Hr G Φ H h) {p : Addr} {o : HO} (n : H p = none) : Ext Φ H Φ (upd H p o) :=
  ⟨fun _ h => h, fun _ h n _ => absurd h n, List.prefix_rfl, fun _ m k => absurd m k, fun a u _ e _ => by rw [upd_ne (ne_of_none e n)]; exact e⟩
theorem Hr.fre {h : PH} (r : Hr G Φ H h) {p : Addr} (n : H p = none) : Fr Φ p := ⟨r.free n, fun m => by
  obtain ⟨_, o, e⟩ := r.exs p m
  rw [n] at e; cases e⟩
theorem Hr.keepEx {h : PH} (r : Hr G Φ H h) (e : Ext Φ H Φ' H') (he : Φ'.ex = Φ.ex := by rfl) : ∀ a ∈ Φ'.ex, a ∉ Φ'.φ ∧ ∃ vs, H' a = some (.lst vs) := fun a m => by
  obtain ⟨n, o, q⟩ := r.exs a (he ▸ m)
  have k : Nt (.lst o) := fun _ z => nomatch z
  exact ⟨fun z => e.new a z n _ q k, o, e.keep a _ n q k⟩
theorem Hr.ext0 {h : PH} (r : Hr G Φ H h) (e : Ext Φ H Φ H') (k : ∀ a ∈ Φ.φ, H' a = H a) : Hr G Φ H' h :=
  ⟨r.nd, r.len, r.keepEx e, fun n o q => let ⟨a, h1, h2⟩ := r.ob n o q; ⟨a, h1, h2.mv e.mv (k a (List.mem_of_getElem? h1))⟩⟩
theorem Hr.laid {h : PH} (r : Hr G Φ H h) {p : Addr} {o : HO} (n : H p = none) : Hr G Φ (upd H p o) h :=
  r.ext0 (Ext.laid r n) fun a m => upd_ne fun z => r.free n (z ▸ m)
/-- .. and is one of ours -/
abbrev Fo.add (Φ : Fo) (p : Addr) : Fo := ⟨Φ.φ ++ [p], Φ.ex⟩
theorem Ext.added {h : PH} (r : Hr G Φ H h) {p : Addr} {o : HO} (n : H p = none) : Ext Φ H (Φ.add p) (upd H p o) :=
  ⟨fun _ h => h, fun _ h n _ => absurd h n, List.prefix_append _ _, fun a m k => by
    rcases List.mem_append.mp m with m | m
    · exact absurd m k
    · rw [List.mem_singleton.mp m]; exact Vd.of n, fun a u _ e _ => by rw [upd_ne (ne_of_none e n)]; exact e⟩
theorem Hr.added {h : PH} (r : Hr G Φ H h) {p : Addr} {u : HO} {o : PO} (n : H p = none) (ho : Ob G (Φ.add p) (upd H p u) o p) : Hr G (Φ.add p) (upd H p u) (h ++ [o]) := by
  have e := Ext.added (o := u) r n
  refine ⟨?_, by simp [Fo.add, r.len], r.keepEx e, fun m o' q => ?_⟩
  · refine List.nodup_append.mpr ⟨r.nd, by simp, fun a ha b hb => ?_⟩
    rw [List.mem_singleton.mp hb]
    rintro rfl
    exact r.free n ha
  · by_cases hm : m < h.length
    · rw [List.getElem?_append_left hm] at q
      obtain ⟨a, h1, h2⟩ := r.ob m o' q
      exact ⟨a, e.ref h1, h2.mv e.mv (upd_ne fun z => r.free n (z ▸ List.mem_of_getElem? h1))⟩
    · have hm' : m = h.length := by
        have := (List.getElem?_eq_some_iff.mp q).1
        simp at this; omega
      subst hm'
      simp at q
      subst q
      exact ⟨p, by simp [Fo.add, ← r.len], ho⟩
/-- one of ours is changed -/
theorem Ext.wrote {n : Nat} {p : Addr} {u : HO} (hp : Φ.φ[n]? = some p) : Ext Φ H Φ (upd H p u) :=
  ⟨fun _ h => h, fun _ h n _ => absurd h n, List.prefix_rfl, fun _ m k => absurd m k, fun a o k e _ => by rw [upd_ne (show a ≠ p from fun z => k (by rw [z]; exact List.mem_of_getElem? hp))]; exact e⟩
theorem Hr.wrote {h : PH} (r : Hr G Φ H h) {n : Nat} {p : Addr} {u : HO} {o : PO} (hp : Φ.φ[n]? = some p) (ho : Ob G Φ (upd H p u) o p) : Hr G Φ (upd H p u) (h.set n o) := by
  have e := Ext.wrote (H := H) (u := u) hp
  refine ⟨r.nd, by rw [List.length_set]; exact r.len, r.keepEx e, fun m o' q => ?_⟩
  by_cases hm : n = m
  · subst hm
    have hl : n < h.length := by have := (List.getElem?_eq_some_iff.mp q).1; rwa [List.length_set] at this
    rw [List.getElem?_set_self hl] at q
    cases q
    exact ⟨p, hp, ho⟩
  · rw [List.getElem?_set_ne hm] at q
    obtain ⟨a, h1, h2⟩ := r.ob m o' q
    refine ⟨a, h1, h2.mv e.mv (upd_ne fun z => hm ?_)⟩
    subst z
    obtain ⟨l1, e1⟩ := List.getElem?_eq_some_iff.mp hp
    obtain ⟨l2, e2⟩ := List.getElem?_eq_some_iff.mp h1
    exact (List.getElem_inj r.nd).mp (e1.trans e2.symm)
/-- a new list: by content, or ours to change -/
def newL (b : Bool) (xs : List PV) (h : PH) : PV × PH := if b then (.ref h.length, h ++ [.lst xs]) else (.lst xs, h)
theorem newL_ok {h : PH} (r : Hr G Φ H h) {b : Bool} {xs : List PV} {vs : List V} (rx : Rs G Φ H xs vs) {p : Addr} (n : H p = none) :
    ∃ Φ', Ext Φ H Φ' (upd H p (.lst vs)) ∧ Hr G Φ' (upd H p (.lst vs)) (newL b xs h).2 ∧ R G Φ' (upd H p (.lst vs)) (newL b xs h).1 (.ref p) := by
  cases b with
  | false => exact ⟨Φ, Ext.laid r n, r.laid n, p, vs, rfl, r.fre n, upd_same, rx.ext (Ext.laid r n)⟩
  | true =>
    have e : Ext Φ H (Φ.add p) (upd H p (.lst vs)) := Ext.added r n
    exact ⟨Φ.add p, e, r.added n ⟨vs, upd_same, rx.ext e⟩, p, by simp [Fo.add, ← r.len], rfl⟩
theorem newT_ok {h : PH} (r : Hr G Φ H h) {xs : List PV} {vs : List V} (rx : Rs G Φ H xs vs) {p : Addr} (n : H p = none) :
    Ext Φ H Φ (upd H p (.tup vs)) ∧ Hr G Φ (upd H p (.tup vs)) h ∧ R G Φ (upd H p (.tup vs)) (.tup xs) (.ref p) :=
  ⟨Ext.laid r n, r.laid n, p, vs, rfl, .inl ⟨r.fre n, .inl upd_same⟩, rx.ext (Ext.laid r n)⟩
end
end Ev
/-! Ev2: outcomes, what a code means (tm), names, operators, tests, arguments, calls. -/
namespace Ev
open PySem PySem.Spec PyProof.Rows L2

inductive Out (α : Type) where
  | ok (a : α) (h : PH) | ex (c : Str) (fs : List Str) (xs : List PV) (h : PH) | bad
def Out.bind {α β : Type} (o : Out α) (k : α → PH → Out β) : Out β := match o with
  | .ok a h => k a h
  | .ex c fs xs h => .ex c fs xs h
  | .bad => .bad
def opt {α : Type} : Option (α × PH) → Out α
  | some (a, h) => .ok a h
  | none => .bad
abbrev gr (X : Cx) : Gr := ⟨X.K, X.mg⟩
abbrev Rel (α β : Type) := Fo → Hp → α → β → Prop
abbrev rB : Rel Bool Bool := fun _ _ a b => a = b
abbrev rO : Rel (Option Int) (Option Int) := fun _ _ a b => a = b

section
variable {α β γ δ : Type}
/-- what is wanted of an outcome that raises nothing -/
def okP (rel : Rel α β) (G : Gr) (Q : β → Hp → Prop) (Φ : Fo) (H : Hp) : Option (α × PH) → Prop
  | some (a, h) => ∀ Φ' H' b, Ext Φ H Φ' H' → Hr G Φ' H' h → rel Φ' H' a b → Q b H'
  | none => False
/-- what is wanted of an outcome -/
def okO (rel : Rel α β) (G : Gr) (W : WX) (Q : β → Hp → Prop) (σ : Sl) (Φ : Fo) (H : Hp) : Out α → Prop
  | .ok a h => ∀ Φ' H' b, Ext Φ H Φ' H' → Hr G Φ' H' h → rel Φ' H' a b → Q b H'
  | .ex c fs xs h => ∀ Φ' H' C d, Ext Φ H Φ' H' → Hr G Φ' H' h → G.mg c = some (.ref C) → XR G Φ' H' d fs xs → W (.ref C) d σ H'
  | .bad => False
/-- what a code that means m asks -/
def tm (rel : Rel α β) (G : Gr) (W : WX) (m : Ro → PH → Out α) : Sl → Hp → (β → Hp → Prop) → Prop := fun σ H Q =>
  ∃ ρ h Φ, Hr G Φ H h ∧ Ros G Φ H ρ σ ∧ okO rel G W Q σ Φ H (m ρ h)
abbrev EM := Ro → PH → Out PV
abbrev tmE (G : Gr) (W : WX) (m : EM) : TE := tm (R G) G W m
abbrev tmT (G : Gr) (W : WX) (m : Ro → PH → Out Bool) : TT := tm rB G W m
abbrev tmA (G : Gr) (W : WX) (m : Ro → PH → Out (List PV)) : TA := tm (Rs G) G W m

variable {G : Gr} {W : WX} {σ : Sl} {Φ Φ' : Fo} {H H' : Hp} {rel : Rel α β} {rel' : Rel γ δ} {Q : β → Hp → Prop} {Q' : δ → Hp → Prop}
theorem okO.start {o : Out α} (e : Ext Φ H Φ' H') (h : okO rel G W Q σ Φ H o) : okO rel G W Q σ Φ' H' o := by
  cases o with
  | ok a h' => exact fun Φ2 H2 b e2 r q => h Φ2 H2 b (e.trans e2) r q
  | ex c fs xs h' => exact fun Φ2 H2 C d e2 r q x => h Φ2 H2 C d (e.trans e2) r q x
  | bad => exact h
theorem okP.start {o : Option (α × PH)} (e : Ext Φ H Φ' H') (h : okP rel G Q Φ H o) : okP rel G Q Φ' H' o := by
  cases o with
  | some p => exact fun Φ2 H2 b e2 r q => h Φ2 H2 b (e.trans e2) r q
  | none => exact h
theorem okO.opt {o : Option (α × PH)} (h : okO rel G W Q σ Φ H (opt o)) : okP rel G Q Φ H o := by
  cases o with
  | some p => exact h
  | none => exact h
/-- the first of two, and what is wanted of the second -/
theorem okO.bind {o : Out α} {k : α → PH → Out γ} (hk : okO rel' G W Q' σ Φ H (o.bind k))
    (st : ∀ a h' Φ' H' b, Ext Φ H Φ' H' → Hr G Φ' H' h' → rel Φ' H' a b → okO rel' G W Q' σ Φ' H' (k a h') → Q b H') : okO rel G W Q σ Φ H o := by
  cases o with
  | ok a h' => exact fun Φ2 H2 b e r q => st a h' Φ2 H2 b e r q (okO.start e hk)
  | ex c fs xs h' => exact hk
  | bad => exact hk
theorem okO.mono {o : Out α} {Q2 : β → Hp → Prop} (h : okO rel G W Q σ Φ H o) (hq : ∀ b H', Q b H' → Q2 b H') : okO rel G W Q2 σ Φ H o := by
  cases o with
  | ok a h' => exact fun Φ2 H2 b e r q => hq _ _ (h Φ2 H2 b e r q)
  | ex c fs xs h' => exact h
  | bad => exact h
end

theorem PE_imp {X : Cx} {e : Expr} {t t' : TE} (h : PE X e t) (i : ∀ σ H Q, t' σ H Q → t σ H Q) : PE X e t' := ⟨fun pins s σ H Q I q => h.run pins s σ H Q I (i _ _ _ q)⟩
theorem PT_imp {X : Cx} {e : Expr} {t t' : TT} (h : PT X e t) (i : ∀ σ H Q, t' σ H Q → t σ H Q) : PT X e t' := ⟨fun pins s σ H Q I q => h.run pins s σ H Q I (i _ _ _ q)⟩
theorem PW_imp {X : Cx} {e : Expr} {t t' : TT} (h : PW X e t) (i : ∀ σ H Q, t' σ H Q → t σ H Q) : PW X e t' := ⟨fun wh pins s σ H Q I q => h.run wh pins s σ H Q I (i _ _ _ q)⟩
theorem PA_imp {X : Cx} {e : List Expr} {t t' : TA} (h : PA X e t) (i : ∀ σ H Q, t' σ H Q → t σ H Q) : PA X e t' := ⟨fun pos pins s σ H Q I q => h.run pos pins s σ H Q I (i _ _ _ q)⟩

/-! ### names and constants -/
def mV (i : Nat) : EM := fun ρ h => match ρ[i]? with
  | some (some v) => .ok v h
  | _ => .bad
def mC (p : PV) : EM := fun _ h => .ok p h
section
variable {X : Cx} {W : WX} {pos : Pos}
theorem me_v (i : Nat) {x : Str} (hN : X.N[i]? = some x := by rfl) (hv : Vis X.env.scope x := by first | exact Or.inl rfl | exact Or.inr (Or.inl rfl) | exact Or.inr (Or.inr rfl)) (hd : (x == ("__debug__" : Str)) = false := by decide)
    (hcd : (x == ("__classdict__" : Str)) = false := by decide) : PE X (.Name x pos) (tmE (gr X) W (mV i)) := by
  refine PE_imp (pe_var hN hv hd hcd) fun σ H Q ⟨ρ, h, Φ, r, rs, q⟩ => ?_
  unfold mV at q
  split at q
  · rename_i v e
    obtain ⟨u, e1, r1⟩ := rs.at_ i v e
    exact ⟨u, e1, q Φ H u .refl r r1⟩
  · exact q.elim
theorem tmC {G : Gr} {σ : Sl} {H : Hp} {Q : VK} {p : PV} {v : V} (rv : ∀ Φ, R G Φ H p v) (q : tmE G W (mC p) σ H Q) : Q v H := by
  obtain ⟨ρ, h, Φ, r, rs, q⟩ := q
  exact q Φ H v .refl r (rv Φ)
theorem me_int {i j} : PE X (.Constant (.int i) j pos) (tmE (gr X) W (mC (.int i))) := PE_imp pe_int fun _ _ _ q => tmC (p := .int i) (fun _ => rfl) q
theorem me_bl {i j} : PE X (.Constant (.bool i) j pos) (tmE (gr X) W (mC (.bl i))) := PE_imp pe_bl fun _ _ _ q => tmC (p := .bl i) (fun _ => rfl) q
theorem me_non {j} : PE X (.Constant .none j pos) (tmE (gr X) W (mC .non)) := PE_imp pe_non fun _ _ _ q => tmC (p := .non) (fun _ => rfl) q
theorem me_str {i j} : PE X (.Constant (.str i) j pos) (tmE (gr X) W (mC (.str i))) := PE_imp pe_str fun _ _ _ q => tmC (p := .str i) (fun _ => rfl) q
/-- a module's constant -/
theorem me_cint {x : Str} {i : Int} {t : Tok} (hm : X.mg x = some (.int i t)) (hg : Gl X x := by rfl) (hd : (x == ("__debug__" : Str)) = false := by decide) : PE X (.Name x pos) (tmE (gr X) W (mC (.int i))) :=
  PE_imp (pe_glob (v := .int i) hg hm ⟨t, rfl⟩ hd) fun _ _ _ q => tmC (p := .int i) (fun _ => rfl) q
theorem me_cstr {x : Str} {i : Str} {t : Tok} (hm : X.mg x = some (.str i t)) (hg : Gl X x := by rfl) (hd : (x == ("__debug__" : Str)) = false := by decide) : PE X (.Name x pos) (tmE (gr X) W (mC (.str i))) :=
  PE_imp (pe_glob (v := .str i) hg hm ⟨t, rfl⟩ hd) fun _ _ _ q => tmC (p := .str i) (fun _ => rfl) q
/-- a class, a def as a value -/
theorem me_gl {x : Str} {a : Addr} (hm : X.mg x = some (.ref a)) (hg : Gl X x := by rfl) (hd : (x == ("__debug__" : Str)) = false := by decide) : PE X (.Name x pos) (tmE (gr X) W (mC (.gl x))) :=
  PE_imp (pe_glob (v := .ref a) hg hm rfl hd) fun _ _ _ q => tmC (p := .gl x) (fun _ => ⟨a, hm, rfl⟩) q
/-- a built-in class as a value -/
theorem me_ty {x : Str} {n : String} (hm : X.mg x = none) (hv : bootBuiltins x = some (.type n) := by decide +kernel) (hg : Gl X x := by rfl) (hn : x ≠ "__name__" := by decide) (hd : (x == ("__debug__" : Str)) = false := by decide) :
    PE X (.Name x pos) (tmE (gr X) W (mC (.ty n))) := PE_imp (pe_bltn (v := .ty n) hg hm hv rfl hn hd) fun _ _ _ q => tmC (p := .ty n) (fun _ => rfl) q
end

/-! ### operators on values -/
abbrev OpF := PV → PV → PH → Option (PV × PH)
def rOp (G : Gr) (g : OpF) : R2 := fun x y H Q => ∃ p q h Φ, Hr G Φ H h ∧ R G Φ H p x ∧ R G Φ H q y ∧ okP (R G) G Q Φ H (g p q h)
abbrev OpM (X : Cx) (f : Value → Value → Sem Value) (g : OpF) : Prop := OpR X f (rOp (gr X) g)
theorem OpM.of {X : Cx} {f : Value → Value → Sem Value} {g : OpF} {r : R2} (ho : OpR X f r)
    (hg : ∀ x y H Q p q h Φ, Hr (gr X) Φ H h → R (gr X) Φ H p x → R (gr X) Φ H q y → okP (R (gr X)) (gr X) Q Φ H (g p q h) → r x y H Q) : OpM X f g := by
  intro pins s σ H x y v u Q I rx ry ⟨p, q, h, Φ, a, b, c, d⟩
  exact ho pins s σ H x y v u Q I rx ry (hg x y H Q p q h Φ a b c d)
def orF (g g' : OpF) : OpF := fun p q h => match g p q h with
  | some r => some r
  | none => g' p q h
theorem OpM.or {X : Cx} {f : Value → Value → Sem Value} {g g' : OpF} (a : OpM X f g) (b : OpM X f g') : OpM X f (orF g g') := by
  intro pins s σ H x y v u Q I rx ry ⟨p, q, h, Φ, r, r1, r2, k⟩
  unfold orF at k
  split at k
  · rename_i z e
    exact a pins s σ H x y v u Q I rx ry ⟨p, q, h, Φ, r, r1, r2, by rw [e]; exact k⟩
  · exact b pins s σ H x y v u Q I rx ry ⟨p, q, h, Φ, r, r1, r2, k⟩
def mBin (g : OpF) (a b : EM) : EM := fun ρ h => (a ρ h).bind fun p h1 => (b ρ h1).bind fun q h2 => opt (g p q h2)
section
variable {X : Cx} {W : WX} {pos : Pos} {a b c : Expr} {ma mb mc : EM} {g g' : OpF}
theorem bin_ok {G : Gr} {σ : Sl} {H : Hp} {Q : VK} (q : tmE G W (mBin g ma mb) σ H Q) : tOp (rOp G g) (tmE G W ma) (tmE G W mb) σ H Q := by
  obtain ⟨ρ, h, Φ, r, rs, q⟩ := q
  refine ⟨ρ, h, Φ, r, rs, okO.bind q fun p h1 Φ1 H1 x e1 r1 rp q1 => ⟨ρ, h1, Φ1, r1, rs.ext e1, okO.bind q1 fun p2 h2 Φ2 H2 y e2 r2 rq q2 => ?_⟩⟩
  exact ⟨p, p2, h2, Φ2, r2, rp.ext e2, rq, q2.opt⟩
theorem me_op {op : Operator} (ho : OpM X (binaryOp op) g) (ha : PE X a (tmE (gr X) W ma)) (hb : PE X b (tmE (gr X) W mb)) : PE X (.BinOp a op b pos) (tmE (gr X) W (mBin g ma mb)) :=
  PE_imp (pe_op ho ha hb) fun _ _ _ q => bin_ok q
theorem me_cmp {op : CmpOp} (ho : OpM X (compareOp op) g) (ha : PE X a (tmE (gr X) W ma)) (hb : PE X b (tmE (gr X) W mb)) (hm : behindInMarks op b = false := by first | exact nomark _ | rfl) :
    PE X (.Compare a [op] [b] pos) (tmE (gr X) W (mBin g ma mb)) := PE_imp (pe_cmpR ho ha hb hm) fun _ _ _ q => bin_ok q
/-- a op1 b op2 c -/
def mCh (g g' : OpF) (a b c : EM) : EM := fun ρ h => (a ρ h).bind fun p h1 => (b ρ h1).bind fun q h2 => (opt (g p q h2)).bind fun z h3 => match z with
  | .bl true => (c ρ h3).bind fun w h4 => opt (g' q w h4)
  | .bl false => .ok (.bl false) h3
  | _ => .bad
theorem chain_ok {G : Gr} {σ : Sl} {H : Hp} {Q : VK} (q : tmE G W (mCh g g' ma mb mc) σ H Q) : tChain (rOp G g) (rOp G g') (tmE G W ma) (tmE G W mb) (tmE G W mc) σ H Q := by
  obtain ⟨ρ, h, Φ, r, rs, q⟩ := q
  refine ⟨ρ, h, Φ, r, rs, okO.bind q fun p h1 Φ1 H1 x e1 r1 rp q1 => ⟨ρ, h1, Φ1, r1, rs.ext e1, okO.bind q1 fun p2 h2 Φ2 H2 y e2 r2 rq q2 => ?_⟩⟩
  refine ⟨p, p2, h2, Φ2, r2, rp.ext e2, rq, (okO.bind q2 fun z h3 Φ3 H3 zv e3 r3 rz q3 => ?_).opt⟩
  cases z with
  | bl k =>
    have rz' : zv = .bl k := rz
    subst rz'
    refine ⟨k, rfl, ?_⟩
    cases k with
    | false => rw [if_neg Bool.false_ne_true]; exact q3 Φ3 H3 _ .refl r3 rfl
    | true =>
      rw [if_pos rfl]
      exact ⟨ρ, h3, Φ3, r3, ((rs.ext e1).ext e2).ext e3, okO.bind q3 fun p4 h4 Φ4 H4 u e4 r4 ru q4 => ⟨p2, p4, h4, Φ4, r4, (rq.ext e3).ext e4, ru, q4.opt⟩⟩
  | _ => exact q3.elim
theorem me_chain {op op' : CmpOp} (ho : OpM X (compareOp op) g) (ho' : OpM X (compareOp op') g') (ha : PE X a (tmE (gr X) W ma)) (hb : PE X b (tmE (gr X) W mb)) (hc : PE X c (tmE (gr X) W mc))
    (hm : lastMarks [op, op'] [b, c] = false := by with_unfolding_all rfl) : PE X (.Compare a [op, op'] [b, c] pos) (tmE (gr X) W (mCh g g' ma mb mc)) :=
  PE_imp (pe_chain ho ho' ha hb hc hm) fun _ _ _ q => chain_ok q

/-! ### one-place -/
abbrev UnF := PV → PH → Option (PV × PH)
def rUn (G : Gr) (g : UnF) : V → Hp → VK → Prop := fun x H Q => ∃ p h Φ, Hr G Φ H h ∧ R G Φ H p x ∧ okP (R G) G Q Φ H (g p h)
def mUn (g : UnF) (a : EM) : EM := fun ρ h => (a ρ h).bind fun p h1 => opt (g p h1)
theorem un_ok {G : Gr} {σ : Sl} {H : Hp} {Q : VK} {g : UnF} (q : tmE G W (mUn g ma) σ H Q) : tUn (rUn G g) (tmE G W ma) σ H Q := by
  obtain ⟨ρ, h, Φ, r, rs, q⟩ := q
  exact ⟨ρ, h, Φ, r, rs, okO.bind q fun p h1 Φ1 H1 x e1 r1 rp q1 => ⟨p, h1, Φ1, r1, rp, q1.opt⟩⟩
theorem me_un {op : UnaryOp} {g : UnF} (ho : UnR X (unaryOp op) (rUn (gr X) g)) (ha : PE X a (tmE (gr X) W ma)) : PE X (.UnaryOp op a pos) (tmE (gr X) W (mUn g ma)) :=
  PE_imp (pe_un ho ha) fun _ _ _ q => un_ok q

/-! ### and, or, not, if: values that are bools -/
def asB (p : PV) (h : PH) : Out Bool := match p with
  | .bl b => .ok b h
  | _ => .bad
def mAnd (a b : EM) : EM := fun ρ h => (a ρ h).bind fun p h1 => (asB p h1).bind fun k h2 => if k then b ρ h2 else .ok (.bl false) h2
def mOr (a b : EM) : EM := fun ρ h => (a ρ h).bind fun p h1 => (asB p h1).bind fun k h2 => if k then .ok (.bl true) h2 else b ρ h2
def mNot (a : EM) : EM := fun ρ h => (a ρ h).bind fun p h1 => (asB p h1).bind fun k h2 => .ok (.bl (!k)) h2
abbrev TMm := Ro → PH → Out Bool
def mIf (t : TMm) (a b : EM) : EM := fun ρ h => (t ρ h).bind fun k h1 => if k then a ρ h1 else b ρ h1
theorem me_one {op} (ha : PE X a (tmE (gr X) W ma)) : PE X (.BoolOp op [a] pos) (tmE (gr X) W ma) := pe_one ha
theorem okAsB {α β : Type} {rel : Rel α β} {G : Gr} {Q : β → Hp → Prop} {σ : Sl} {Φ : Fo} {H : Hp} {p : PV} {x : V} {h : PH} {k : Bool → PH → Out α} (rp : R G Φ H p x) (q : okO rel G W Q σ Φ H ((asB p h).bind k)) :
    ∃ b, x = .bl b ∧ okO rel G W Q σ Φ H (k b h) := by
  cases p with
  | bl b => exact ⟨b, rp, q⟩
  | _ => exact q.elim
theorem me_and {rest : List Expr} (ha : PE X a (tmE (gr X) W ma)) (hb : PE X (.BoolOp .And (b :: rest) pos) (tmE (gr X) W mb)) : PE X (.BoolOp .And (a :: b :: rest) pos) (tmE (gr X) W (mAnd ma mb)) := by
  refine PE_imp (pe_and ha hb) fun σ H Q ⟨ρ, h, Φ, r, rs, q⟩ => ⟨ρ, h, Φ, r, rs, okO.bind q fun p h1 Φ1 H1 x e1 r1 rp q1 => ?_⟩
  obtain ⟨k, rfl, q2⟩ := okAsB rp q1
  refine ⟨k, rfl, ?_⟩
  cases k with
  | false => rw [if_neg Bool.false_ne_true]; exact q2 Φ1 H1 _ .refl r1 rfl
  | true => rw [if_pos rfl]; exact ⟨ρ, h1, Φ1, r1, rs.ext e1, q2⟩
theorem me_or {rest : List Expr} (ha : PE X a (tmE (gr X) W ma)) (hb : PE X (.BoolOp .Or (b :: rest) pos) (tmE (gr X) W mb)) : PE X (.BoolOp .Or (a :: b :: rest) pos) (tmE (gr X) W (mOr ma mb)) := by
  refine PE_imp (pe_or ha hb) fun σ H Q ⟨ρ, h, Φ, r, rs, q⟩ => ⟨ρ, h, Φ, r, rs, okO.bind q fun p h1 Φ1 H1 x e1 r1 rp q1 => ?_⟩
  obtain ⟨k, rfl, q2⟩ := okAsB rp q1
  refine ⟨k, rfl, ?_⟩
  cases k with
  | true => rw [if_pos rfl]; exact q2 Φ1 H1 _ .refl r1 rfl
  | false => rw [if_neg Bool.false_ne_true]; exact ⟨ρ, h1, Φ1, r1, rs.ext e1, q2⟩
theorem me_not (ha : PE X a (tmE (gr X) W ma)) : PE X (.UnaryOp .Not a pos) (tmE (gr X) W (mNot ma)) := by
  refine PE_imp (pe_not ha) fun σ H Q ⟨ρ, h, Φ, r, rs, q⟩ => ⟨ρ, h, Φ, r, rs, okO.bind q fun p h1 Φ1 H1 x e1 r1 rp q1 => ?_⟩
  obtain ⟨k, rfl, q2⟩ := okAsB rp q1
  exact ⟨k, rfl, q2 Φ1 H1 _ .refl r1 rfl⟩
theorem me_if {mt : TMm} (hc : PT X c (tmT (gr X) W mt)) (ha : PE X a (tmE (gr X) W ma)) (hb : PE X b (tmE (gr X) W mb)) : PE X (.IfExp c a b pos) (tmE (gr X) W (mIf mt ma mb)) := by
  refine PE_imp (pe_ifExp hc ha hb) fun σ H Q ⟨ρ, h, Φ, r, rs, q⟩ => ⟨ρ, h, Φ, r, rs, okO.bind q fun k h1 Φ1 H1 x e1 r1 rp q1 => ?_⟩
  have rp' : k = x := rp
  subst rp'
  cases k with
  | true => rw [if_pos rfl]; exact ⟨ρ, h1, Φ1, r1, rs.ext e1, q1⟩
  | false => rw [if_neg Bool.false_ne_true]; exact ⟨ρ, h1, Φ1, r1, rs.ext e1, q1⟩

/-! ### tests -/
def tB_ (a : EM) : TMm := fun ρ h => (a ρ h).bind fun p h1 => asB p h1
def tAnd_ (a b : TMm) : TMm := fun ρ h => (a ρ h).bind fun k h1 => if k then b ρ h1 else .ok false h1
def tOr_ (a b : TMm) : TMm := fun ρ h => (a ρ h).bind fun k h1 => if k then .ok true h1 else b ρ h1
def tNot_ (a : TMm) : TMm := fun ρ h => (a ρ h).bind fun k h1 => .ok (!k) h1
theorem asB_ok {G : Gr} {Q : Bool → Hp → Prop} {σ : Sl} {Φ : Fo} {H : Hp} {p : PV} {x : V} {h : PH} (r : Hr G Φ H h) (rp : R G Φ H p x) (q : okO rB G W Q σ Φ H (asB p h)) : ∃ b, x = .bl b ∧ Q b H := by
  cases p with
  | bl b => exact ⟨b, rp, q Φ H b .refl r rfl⟩
  | _ => exact q.elim
/-- an expression that gives a bool: a call, a name, a subscript .. -/
theorem mt_val {e : Expr} (h : PE X e (tmE (gr X) W ma)) (he : ∀ whole, isTrue e X.env whole = (do let v ← whole; standAt e.pos; holding [v] (truthy v)) := by intro _; rfl) : PT X e (tmT (gr X) W (tB_ ma)) :=
  PT_imp (pt_val h he) fun σ H Q ⟨ρ, h, Φ, r, rs, q⟩ => ⟨ρ, h, Φ, r, rs, okO.bind q fun p h1 Φ1 H1 x e1 r1 rp q1 => asB_ok r1 rp q1⟩
theorem mt_cmp {op : CmpOp} (ho : OpM X (compareOp op) g) (ha : PE X a (tmE (gr X) W ma)) (hb : PE X b (tmE (gr X) W mb)) (hm : behindInMarks op b = false := by first | exact nomark _ | rfl) :
    PT X (.Compare a [op] [b] pos) (tmT (gr X) W (tB_ (mBin g ma mb))) := by
  refine PT_imp (pt_cmpR ho ha hb hm) fun σ H Q ⟨ρ, h, Φ, r, rs, q⟩ => bin_ok ⟨ρ, h, Φ, r, rs, okO.bind q fun p h1 Φ1 H1 x e1 r1 rp q1 => asB_ok r1 rp q1⟩
theorem mt_chain {op op' : CmpOp} (ho : OpM X (compareOp op) g) (ho' : OpM X (compareOp op') g') (ha : PE X a (tmE (gr X) W ma)) (hb : PE X b (tmE (gr X) W mb)) (hc : PE X c (tmE (gr X) W mc))
    (hm : lastMarks [op, op'] [b, c] = false := by with_unfolding_all rfl) : PT X (.Compare a [op, op'] [b, c] pos) (tmT (gr X) W (tB_ (mCh g g' ma mb mc))) := by
  refine PT_imp (pt_chain ho ho' ha hb hc hm) fun σ H Q ⟨ρ, h, Φ, r, rs, q⟩ => chain_ok ⟨ρ, h, Φ, r, rs, okO.bind q fun p h1 Φ1 H1 x e1 r1 rp q1 => asB_ok r1 rp q1⟩
variable {ta tb : TMm}
theorem mt_not (ha : PT X a (tmT (gr X) W ta)) : PT X (.UnaryOp .Not a pos) (tmT (gr X) W (tNot_ ta)) := by
  refine PT_imp (pt_not ha) fun σ H Q ⟨ρ, h, Φ, r, rs, q⟩ => ⟨ρ, h, Φ, r, rs, okO.bind q fun k h1 Φ1 H1 x e1 r1 rp q1 => ?_⟩
  have rp' : k = x := rp
  subst rp'
  exact q1 Φ1 H1 _ .refl r1 rfl
theorem mw_and1 (ha : PT X a (tmT (gr X) W ta)) : PW X (.BoolOp .And [a] pos) (tmT (gr X) W ta) := pw_and1 ha
theorem mw_or1 (ha : PT X a (tmT (gr X) W ta)) : PW X (.BoolOp .Or [a] pos) (tmT (gr X) W ta) := pw_or1 ha
theorem mw_and {rest : List Expr} (ha : PT X a (tmT (gr X) W ta)) (hb : PW X (.BoolOp .And (b :: rest) pos) (tmT (gr X) W tb)) : PW X (.BoolOp .And (a :: b :: rest) pos) (tmT (gr X) W (tAnd_ ta tb)) := by
  refine PW_imp (pw_and ha hb) fun σ H Q ⟨ρ, h, Φ, r, rs, q⟩ => ⟨ρ, h, Φ, r, rs, okO.bind q fun k h1 Φ1 H1 x e1 r1 rp q1 => ?_⟩
  have rp' : k = x := rp
  subst rp'
  cases k with
  | true => rw [if_pos rfl]; exact ⟨ρ, h1, Φ1, r1, rs.ext e1, q1⟩
  | false => rw [if_neg Bool.false_ne_true]; exact q1 Φ1 H1 _ .refl r1 rfl
theorem mw_or {rest : List Expr} (ha : PT X a (tmT (gr X) W ta)) (hb : PW X (.BoolOp .Or (b :: rest) pos) (tmT (gr X) W tb)) : PW X (.BoolOp .Or (a :: b :: rest) pos) (tmT (gr X) W (tOr_ ta tb)) := by
  refine PW_imp (pw_or ha hb) fun σ H Q ⟨ρ, h, Φ, r, rs, q⟩ => ⟨ρ, h, Φ, r, rs, okO.bind q fun k h1 Φ1 H1 x e1 r1 rp q1 => ?_⟩
  have rp' : k = x := rp
  subst rp'
  cases k with
  | false => rw [if_neg Bool.false_ne_true]; exact ⟨ρ, h1, Φ1, r1, rs.ext e1, q1⟩
  | true => rw [if_pos rfl]; exact q1 Φ1 H1 _ .refl r1 rfl
theorem mt_w (h : PW X a (tmT (gr X) W ta)) : PT X a (tmT (gr X) W ta) := h.pt

/-! ### arguments, calls -/
abbrev AM := Ro → PH → Out (List PV)
def mNil : AM := fun _ h => .ok [] h
def mCons (a : EM) (r : AM) : AM := fun ρ h => (a ρ h).bind fun p h1 => (r ρ h1).bind fun ps h2 => .ok (p :: ps) h2
variable {es : List Expr} {mr : AM}
theorem ma_nil : PA X [] (tmA (gr X) W mNil) := PA_imp pa_nil fun σ H Q ⟨ρ, h, Φ, r, rs, q⟩ => q Φ H [] .refl r rfl
theorem ma_cons (ha : PE X a (tmE (gr X) W ma)) (hr : PA X es (tmA (gr X) W mr)) (hs : starEach (a :: es) X.env = (false, eval a X.env) :: starEach es X.env := by rfl) : PA X (a :: es) (tmA (gr X) W (mCons ma mr)) := by
  refine PA_imp (pa_cons ha hr hs) fun σ H Q ⟨ρ, h, Φ, r, rs, q⟩ => ⟨ρ, h, Φ, r, rs, okO.bind q fun p h1 Φ1 H1 x e1 r1 rp q1 => ⟨ρ, h1, Φ1, r1, rs.ext e1, okO.bind q1 fun ps h2 Φ2 H2 xs e2 r2 rq q2 => ?_⟩⟩
  exact q2 Φ2 H2 (x :: xs) .refl r2 ⟨x, xs, rfl, rp.ext e2, rq⟩
/-- a built-in's work on values -/
abbrev CF := List PV → PH → Option (PV × PH)
def rCall (G : Gr) (g : CF) : List V → Hp → VK → Prop := fun xs H Q => ∃ ps h Φ, Hr G Φ H h ∧ Rs G Φ H ps xs ∧ okP (R G) G Q Φ H (g ps h)
abbrev CallM (X : Cx) (f : Value) (g : CF) : Prop := CallR X f (rCall (gr X) g)
theorem CallM.of {X : Cx} {f : Value} {g : CF} {r : List V → Hp → VK → Prop} (ho : CallR X f r)
    (hg : ∀ xs H Q ps h Φ, Hr (gr X) Φ H h → Rs (gr X) Φ H ps xs → okP (R (gr X)) (gr X) Q Φ H (g ps h) → r xs H Q) : CallM X f g := by
  intro pins s σ H xs us Q I rx ⟨ps, h, Φ, a, b, c⟩
  exact ho pins s σ H xs us Q I rx (hg xs H Q ps h Φ a b c)
def orC (g g' : CF) : CF := fun p h => match g p h with
  | some r => some r
  | none => g' p h
theorem CallM.or {X : Cx} {f : Value} {g g' : CF} (a : CallM X f g) (b : CallM X f g') : CallM X f (orC g g') := by
  intro pins s σ H xs us Q I rx ⟨p, h, Φ, r, r1, k⟩
  unfold orC at k
  split at k
  · rename_i z e
    exact a pins s σ H xs us Q I rx ⟨p, h, Φ, r, r1, by rw [e]; exact k⟩
  · exact b pins s σ H xs us Q I rx ⟨p, h, Φ, r, r1, k⟩
def mCallB (g : CF) (as : AM) : EM := fun ρ h => (as ρ h).bind fun ps h1 => opt (g ps h1)
theorem callB_ok {G : Gr} {σ : Sl} {H : Hp} {Q : VK} {g : CF} (q : tmE G W (mCallB g mr) σ H Q) : tCB (rCall G g) (tmA G W mr) σ H Q := by
  obtain ⟨ρ, h, Φ, r, rs, q⟩ := q
  exact ⟨ρ, h, Φ, r, rs, okO.bind q fun ps h1 Φ1 H1 xs e1 r1 rp q1 => ⟨ps, h1, Φ1, r1, rp, q1.opt⟩⟩
variable {x : Str} {p : Pos} {e : Expr} {id T : String} {gc : CF}
theorem me_callB (hc : CallM X (.builtin id) gc) (hm : X.mg x = none) (hv : bootBuiltins x = some (.builtin id)) (ha : PA X (e :: es) (tmA (gr X) W mr)) (hg : Gl X x := by rfl) (hn : x ≠ "__name__" := by decide) (hdb : (x == ("__debug__" : Str)) = false := by decide)
    (he : starEach (e :: es) X.env = (false, eval e X.env) :: starEach es X.env := by rfl) (hpl : (backTo pos (starEach es X.env)).any (·.1) = false := by rfl) : PE X (.Call (.Name x p) (e :: es) [] pos) (tmE (gr X) W (mCallB gc mr)) :=
  PE_imp (pe_callB hc hg hm hv ha hn hdb he hpl) fun _ _ _ q => callB_ok q
theorem me_callTy (hc : CallM X (.type T) gc) (hm : X.mg x = none) (hv : bootBuiltins x = some (.type T)) (ha : PA X (e :: es) (tmA (gr X) W mr)) (hg : Gl X x := by rfl) (hn : x ≠ "__name__" := by decide) (hdb : (x == ("__debug__" : Str)) = false := by decide)
    (he : starEach (e :: es) X.env = (false, eval e X.env) :: starEach es X.env := by rfl) (hpl : (backTo pos (starEach es X.env)).any (·.1) = false := by rfl) : PE X (.Call (.Name x p) (e :: es) [] pos) (tmE (gr X) W (mCallB gc mr)) :=
  PE_imp (pe_callTy hc hg hm hv ha hn hdb he hpl) fun _ _ _ q => callB_ok q

/-! ### own defs -/
/-- a def's meaning -/
abbrev DF := List PV → PH → Out PV
def spM (G : Gr) (n : Nat) (g : DF) : Sp := fun vs H Q E => vs.length = n ∧ ∃ ps h Φ, Hr G Φ H h ∧ Rs G Φ H ps vs ∧ okO (R G) G (fun c d _ H' => E c d H') Q [] Φ H (g ps h)
abbrev FnM (P : Program) (w : World) (K : PySem.W.Frag) (mg : Str → Option Value) (base : Heap) (k : Nat) (f : Addr) (fd : FuncData) (ps : List Str) (g : DF) : Prop :=
  FnOk P w K mg base (L2.CX P w) k f fd ps (spM ⟨K, mg⟩ ps.length g)
def mCall (g : DF) (as : AM) : EM := fun ρ h => (as ρ h).bind fun ps h1 => g ps h1
theorem okO.slots {α β : Type} {rel : Rel α β} {G : Gr} {Q : β → Hp → Prop} {σ : Sl} {Φ : Fo} {H : Hp} {o : Out α} (h : okO rel G W Q σ Φ H o) : okO rel G (fun c d _ H' => W c d σ H') Q [] Φ H o := by
  cases o with
  | ok a h' => exact h
  | ex c fs xs h' => exact h
  | bad => exact h
theorem call_ok {G : Gr} {σ : Sl} {H : Hp} {Q : VK} {g : DF} {n : Nat} (hn : ∀ ps h, g ps h ≠ .bad → ps.length = n) (q : tmE G W (mCall g mr) σ H Q) : tCallS (spM G n g) (WE W) (tmA G W mr) σ H Q := by
  obtain ⟨ρ, h, Φ, r, rs, q⟩ := q
  refine ⟨ρ, h, Φ, r, rs, okO.bind q fun ps h1 Φ1 H1 xs e1 r1 rp q1 => ⟨?_, ps, h1, Φ1, r1, rp, q1.slots⟩⟩
  rw [← rp.length]
  exact hn ps h1 fun z => by rw [z] at q1; exact q1
variable {k : Nat} {f : Addr} {fd : FuncData} {ps : List Str} {gd : DF}
theorem me_call (F : FnM X.prog X.w X.K X.mg X.base k f fd ps gd) (hn : ∀ qs h, gd qs h ≠ .bad → qs.length = ps.length) (hr : Room k X.A) (hm : X.mg x = some (.ref f)) (hk : PySem.W.keepIn X.K (.ref f) = true) (hb : Binds X.K fd ps []) (tk : Takes X W)
    (ha : PA X (e :: es) (tmA (gr X) W mr)) (hg : Gl X x := by rfl) (hdb : (x == ("__debug__" : Str)) = false := by decide) (he : starEach (e :: es) X.env = (false, eval e X.env) :: starEach es X.env := by rfl) (hpl : (backTo pos (starEach es X.env)).any (·.1) = false := by rfl) :
    PE X (.Call (.Name x p) (e :: es) [] pos) (tmE (gr X) W (mCall gd mr)) :=
  PE_imp (pe_callS F hr hg hm hk hb (fun σ => passAt tk σ) ha hdb he hpl) fun _ _ _ q => call_ok hn q
end
end Ev
/-! Ev3: the built-ins' work on values by content. -/
namespace Ev
open PySem PySem.Spec PyProof.Rows L2

/-! ### reading sequences -/
def asL (h : PH) : PV → Option (List PV)
  | .lst xs => some xs
  | .rol xs => some xs
  | .ref n => match h[n]? with
    | some (.lst xs) => some xs
    | _ => none
  | _ => none
/-- .. that the hand layer tracks -/
def asM (h : PH) : PV → Option (List PV)
  | .lst xs => some xs
  | .ref n => match h[n]? with
    | some (.lst xs) => some xs
    | _ => none
  | _ => none
def asT : PV → Option (List PV)
  | .tup xs => some xs
  | _ => none
section
variable {G : Gr} {Φ : Fo} {H : Hp} {h : PH} {p : PV} {v : V} {xs : List PV}
theorem asM_ok (r : Hr G Φ H h) (rp : R G Φ H p v) (e : asM h p = some xs) : ∃ a vs, v = .ref a ∧ H a = some (.lst vs) ∧ Rs G Φ H xs vs := by
  cases p with
  | lst ys =>
    cases e
    obtain ⟨a, vs, h1, h2, h3, h4⟩ := rp
    exact ⟨a, vs, h1, h3, h4⟩
  | ref n =>
    unfold asM at e
    cases q : h[n]? with
    | none => simp [q] at e
    | some o =>
      cases o with
      | lst ys =>
        simp [q] at e
        subst e
        obtain ⟨a, h1, vs, h2, h3⟩ := r.ob n _ q
        obtain ⟨b, h4, h5⟩ := rp
        rw [h1] at h4; cases h4
        exact ⟨a, vs, h5, h2, h3⟩
      | _ => simp [q] at e
  | _ => cases e
theorem asL_ok (r : Hr G Φ H h) (rp : R G Φ H p v) (e : asL h p = some xs) : ∃ a vs, v = .ref a ∧ SqL G.K H a vs ∧ Rs G Φ H xs vs := by
  cases p with
  | rol ys =>
    cases e
    obtain ⟨a, vs, h1, h2, h3⟩ := rp
    exact ⟨a, vs, h1, h2.imp (fun q => q.2) (fun q => q), h3⟩
  | lst ys =>
    obtain ⟨a, vs, h1, h2, h3⟩ := asM_ok r rp (show asM h (.lst ys) = some xs from e)
    exact ⟨a, vs, h1, .inl (.inl h2), h3⟩
  | ref n =>
    obtain ⟨a, vs, h1, h2, h3⟩ := asM_ok r rp (show asM h (.ref n) = some xs from e)
    exact ⟨a, vs, h1, .inl (.inl h2), h3⟩
  | _ => cases e
theorem asT_ok (rp : R G Φ H p v) (e : asT p = some xs) : ∃ a vs, v = .ref a ∧ SqT G.K H a vs ∧ Rs G Φ H xs vs := by
  cases p with
  | tup ys =>
    cases e
    obtain ⟨a, vs, h1, h2, h3⟩ := rp
    exact ⟨a, vs, h1, h2.imp (fun q => q.2) (fun q => q), h3⟩
  | _ => cases e
end
/-- the flat values, as the hand layer has them -/
def toV : PV → Option V
  | .non => some .non
  | .bl b => some (.bl b)
  | .int i => some (.int i)
  | .str x => some (.str x)
  | _ => none
def toVs : List PV → Option (List V)
  | [] => some []
  | p :: ps => match toV p, toVs ps with
    | some v, some vs => some (v :: vs)
    | _, _ => none
section
variable {G : Gr} {Φ : Fo} {H : Hp}
theorem toV_ok {p : PV} {v u : V} (rp : R G Φ H p v) (e : toV p = some u) : v = u ∧ flatV u = true := by
  cases p <;> first
    | (cases e; exact ⟨rp, rfl⟩)
    | cases e
theorem toVs_ok : ∀ {ps : List PV} {vs us : List V}, Rs G Φ H ps vs → toVs ps = some us → vs = us ∧ us.all flatV = true
  | [], _, _, r, e => by cases e; exact ⟨r, rfl⟩
  | p :: ps, _, _, r, e => by
    obtain ⟨v, vr, rfl, r1, r2⟩ := r
    unfold toVs at e
    split at e
    · rename_i u us h1 h2
      cases e
      obtain ⟨a, b⟩ := toV_ok r1 h1
      obtain ⟨c, d⟩ := toVs_ok r2 h2
      exact ⟨by rw [a, c], by rw [List.all_cons, b, d]; rfl⟩
    · cases e
end
/-- values as plain data -/
def datL (f : PV → Option PyData) : List PV → Option (List PyData)
  | [] => some []
  | p :: ps => match f p, datL f ps with
    | some d, some ds => some (d :: ds)
    | _, _ => none
mutual
def dat : PV → Option PyData
  | .non => some .none
  | .bl b => some (.bool b)
  | .int i => some (.int i)
  | .str x => some (.str x)
  | .tup xs => (dats xs).map .tuple
  | .lst xs => (dats xs).map .list
  | .rol xs => (dats xs).map .list
  | _ => none
def dats : List PV → Option (List PyData)
  | [] => some []
  | p :: ps => match dat p, dats ps with
    | some d, some ds => some (d :: ds)
    | _, _ => none
end
def datH (h : PH) : PV → Option PyData
  | .ref n => match h[n]? with
    | some (.lst xs) => (dats xs).map .list
    | _ => none
  | p => dat p
section
variable {G : Gr} {Φ : Fo} {H : Hp}
mutual
theorem dat_ok : ∀ {p : PV} {v : V} {d : PyData}, R G Φ H p v → dat p = some d → Dp G.K H v d
  | .non, _, _, r, e => by cases e; rw [show _ = V.non from r]; exact .non
  | .bl b, _, _, r, e => by cases e; rw [show _ = V.bl b from r]; exact .bl b
  | .int i, _, _, r, e => by cases e; rw [show _ = V.int i from r]; exact .int i
  | .str i, _, _, r, e => by cases e; rw [show _ = V.str i from r]; exact .str i
  | .tup xs, _, d, r, e => by
    obtain ⟨a, vs, rfl, h2, h3⟩ := r
    cases q : dats xs with
    | none => simp [dat, q] at e
    | some ds =>
      simp [dat, q] at e
      subst e
      exact .tup (h2.imp (fun q => q.2) (fun q => q)) (dats_ok h3 q)
  | .lst xs, _, d, r, e => by
    obtain ⟨a, vs, rfl, h1, h2, h3⟩ := r
    cases q : dats xs with
    | none => simp [dat, q] at e
    | some ds =>
      simp [dat, q] at e
      subst e
      exact .lst (.inl (.inl h2)) (dats_ok h3 q)
  | .rol xs, _, d, r, e => by
    obtain ⟨a, vs, rfl, h2, h3⟩ := r
    cases q : dats xs with
    | none => simp [dat, q] at e
    | some ds =>
      simp [dat, q] at e
      subst e
      exact .lst (h2.imp (fun q => q.2) (fun q => q)) (dats_ok h3 q)
  | .ty _, _, _, _, e => by simp [dat] at e
  | .gl _, _, _, _, e => by simp [dat] at e
  | .ref _, _, _, _, e => by simp [dat] at e
  | .dct _ _, _, _, _, e => by simp [dat] at e
  | .ins _ _ _, _, _, _, e => by simp [dat] at e
theorem dats_ok : ∀ {p : List PV} {v : List V} {d : List PyData}, Rs G Φ H p v → dats p = some d → DpAll G.K H v d
  | [], _, _, r, e => by
    simp [dats] at e
    subst e
    rw [show _ = [] from r]; exact .nil
  | p :: ps, _, _, r, e => by
    obtain ⟨v, vr, rfl, r1, r2⟩ := r
    cases q1 : dat p with
    | none => simp [dats, q1] at e
    | some d =>
      cases q2 : dats ps with
      | none => simp [dats, q1, q2] at e
      | some ds =>
        simp [dats, q1, q2] at e
        subst e
        exact .cons (dat_ok r1 q1) (dats_ok r2 q2)
end
theorem datH_ok {h : PH} {p : PV} {v : V} {d : PyData} (r : Hr G Φ H h) (rp : R G Φ H p v) (e : datH h p = some d) : Dp G.K H v d := by
  cases p with
  | ref n =>
    unfold datH at e
    cases q : h[n]? with
    | none => simp [q] at e
    | some o =>
      cases o with
      | lst xs =>
        cases q2 : dats xs with
        | none => simp [q, q2] at e
        | some ds =>
          simp [q, q2] at e
          subst e
          obtain ⟨a, vs, h1, h2, h3⟩ := asM_ok r rp (show asM h (.ref n) = some xs by unfold asM; simp [q])
          subst h1
          exact .lst (.inl (.inl h2)) (dats_ok h3 q2)
      | _ => simp [q] at e
  | _ => exact dat_ok rp e
end

/-! ### ints -/
def fI (g : Int → Int → PV) : OpF := fun p q h => match p, q with
  | .int i, .int j => some (g i j, h)
  | _, _ => none
def fIc (c : Int → Int → Bool) (g : Int → Int → PV) : OpF := fun p q h => match p, q with
  | .int i, .int j => if c i j then some (g i j, h) else none
  | _, _ => none
section
variable {G : Gr} {Φ : Fo} {H : Hp} {h : PH} {p q : PV} {x y : V} {Q : VK}
theorem fI_ok {g : Int → Int → PV} (r : Hr G Φ H h) (rp : R G Φ H p x) (rq : R G Φ H q y) (k : okP (R G) G Q Φ H (fI g p q h)) : ∃ i j, x = .int i ∧ y = .int j ∧ okP (R G) G Q Φ H (some (g i j, h)) := by
  unfold fI at k
  split at k
  · rename_i i j
    exact ⟨i, j, rp, rq, k⟩
  · exact k.elim
theorem fIc_ok {c : Int → Int → Bool} {g : Int → Int → PV} (r : Hr G Φ H h) (rp : R G Φ H p x) (rq : R G Φ H q y) (k : okP (R G) G Q Φ H (fIc c g p q h)) :
    ∃ i j, x = .int i ∧ y = .int j ∧ c i j = true ∧ okP (R G) G Q Φ H (some (g i j, h)) := by
  unfold fIc at k
  split at k
  · rename_i i j
    split at k
    · rename_i hc
      exact ⟨i, j, rp, rq, hc, k⟩
    · exact k.elim
  · exact k.elim
end
section
variable {X : Cx}
theorem om_int {f : Value → Value → Sem Value} {g : Int → Int → Int} (ho : OpR X f (rI0 fun i j => .int (g i j))) : OpM X f (fI fun i j => .int (g i j)) := OpM.of ho fun x y H Q p q h Φ r rp rq k => by
  obtain ⟨i, j, h1, h2, k⟩ := fI_ok r rp rq k
  exact ⟨i, j, h1, h2, k Φ H _ .refl r rfl⟩
theorem om_bl {f : Value → Value → Sem Value} {g : Int → Int → Bool} (ho : OpR X f (rI0 fun i j => .bl (g i j))) : OpM X f (fI fun i j => .bl (g i j)) := OpM.of ho fun x y H Q p q h Φ r rp rq k => by
  obtain ⟨i, j, h1, h2, k⟩ := fI_ok r rp rq k
  exact ⟨i, j, h1, h2, k Φ H _ .refl r rfl⟩
theorem om_intc {f : Value → Value → Sem Value} {C : Int → Int → Prop} {c : Int → Int → Bool} {g : Int → Int → Int} (ho : OpR X f (rI C fun i j => .int (g i j))) (hc : ∀ i j, c i j = true → C i j) : OpM X f (fIc c fun i j => .int (g i j)) :=
  OpM.of ho fun x y H Q p q h Φ r rp rq k => by
    obtain ⟨i, j, h1, h2, h3, k⟩ := fIc_ok r rp rq k
    exact ⟨i, j, h1, h2, hc i j h3, k Φ H _ .refl r rfl⟩
def cMul (i j : Int) : Bool := decide ((-(2 ^ 64) < i ∧ i < 2 ^ 64) ∨ (-(2 ^ 64) < j ∧ j < 2 ^ 64))
def cPos (_ j : Int) : Bool := decide (0 < j)
def cDiv (_ j : Int) : Bool := decide (0 < j ∧ j < 1073741824)
def cPow (i j : Int) : Bool := decide (0 ≤ j ∧ j ≤ 1000000 ∧ i.natAbs < 2 ^ 64)
abbrev fAddI : OpF := fI fun i j => .int (i + j)
abbrev fSubI : OpF := fI fun i j => .int (i - j)
abbrev fMulI : OpF := fIc cMul fun i j => .int (i * j)
abbrev fModI : OpF := fIc cPos fun i j => .int (i % j)
abbrev fDivI : OpF := fIc cDiv fun i j => .int (i / j)
abbrev fPowI : OpF := fIc cPow fun i j => .int (i ^ j.toNat)
abbrev fLt : OpF := fI fun i j => .bl (decide (i < j))
abbrev fLe : OpF := fI fun i j => .bl (decide (i ≤ j))
abbrev fGt : OpF := fI fun i j => .bl (decide (j < i))
abbrev fGe : OpF := fI fun i j => .bl (decide (j ≤ i))
theorem om_addI : OpM X (binaryOp .Add) fAddI := om_int op_add
theorem om_subI : OpM X (binaryOp .Sub) fSubI := om_int op_sub
theorem om_mulI : OpM X (binaryOp .Mult) fMulI := om_intc op_mul fun i j h => of_decide_eq_true (p := (-(2 ^ 64) < i ∧ i < 2 ^ 64) ∨ (-(2 ^ 64) < j ∧ j < 2 ^ 64)) h
theorem om_mod : OpM X (binaryOp .Mod) fModI := om_intc op_mod fun _ _ h => of_decide_eq_true h
theorem om_div : OpM X (binaryOp .FloorDiv) fDivI := om_intc op_fdiv fun i j h => of_decide_eq_true (p := 0 < j ∧ j < 1073741824) h
theorem om_pow : OpM X (binaryOp .Pow) fPowI := om_intc op_pow fun i j h => of_decide_eq_true (p := 0 ≤ j ∧ j ≤ 1000000 ∧ i.natAbs < 2 ^ 64) h
theorem om_lt : OpM X (compareOp .Lt) fLt := om_bl op_lt
theorem om_le : OpM X (compareOp .LtE) fLe := om_bl op_le
theorem om_gt : OpM X (compareOp .Gt) fGt := om_bl op_gt
theorem om_ge : OpM X (compareOp .GtE) fGe := om_bl op_ge
theorem om_iadd : OpM X (inplaceOp .Add) fAddI := om_int iop_add
theorem om_isub : OpM X (inplaceOp .Sub) fSubI := om_int iop_sub

/-! ### texts, tuples, lists: +, * -/
def fAddS : OpF := fun p q h => match p, q with
  | .str x, .str y => if x.length + y.length ≤ sizeLine then some (.str (x ++ y), h) else none
  | _, _ => none
theorem om_addS : OpM X (binaryOp .Add) fAddS := OpM.of op_add_str fun x y H Q p q h Φ r rp rq k => by
  unfold fAddS at k
  split at k
  · rename_i i j
    split at k
    · rename_i hc
      exact ⟨i, j, rp, rq, hc, k Φ H _ .refl r rfl⟩
    · exact k.elim
  · exact k.elim
def fAddT : OpF := fun p q h => match asT p, asT q with
  | some xs, some ys => if xs.length + ys.length ≤ sizeLine then some (.tup (xs ++ ys), h) else none
  | _, _ => none
theorem om_addT : OpM X (binaryOp .Add) fAddT := OpM.of op_catA fun x y H Q p q h Φ r rp rq k => by
  unfold fAddT at k
  split at k
  · rename_i xs ys e1 e2
    split at k
    · rename_i hc
      obtain ⟨a, vs, h1, h2, h3⟩ := asT_ok rp e1
      obtain ⟨b, us, g1, g2, g3⟩ := asT_ok rq e2
      have l1 := h3.length
      have l2 := g3.length
      refine ⟨a, b, vs, us, h1, g1, h2, g2, by rw [← l1, ← l2]; exact hc, fun z => ?_, fun _ z => ?_, fun _ _ n hn => ?_⟩
      · subst z
        have e3 : xs = [] := List.eq_nil_of_length_eq_zero l1
        subst e3
        refine k Φ H _ .refl r ?_
        rw [← g1]
        cases q <;> first
          | (cases e2; exact rq)
          | cases e2
      · subst z
        have e3 : ys = [] := List.eq_nil_of_length_eq_zero l2
        subst e3
        refine k Φ H _ .refl r ?_
        rw [← h1, List.append_nil]
        cases p <;> first
          | (cases e1; exact rp)
          | cases e1
      · obtain ⟨e, r', q'⟩ := newT_ok r (h3.append g3) hn
        exact k Φ _ _ e r' q'
    · exact k.elim
  · exact k.elim
def fAddL (b : Bool) : OpF := fun p q h => match asM h p, asM h q with
  | some xs, some ys => if xs.length + ys.length ≤ sizeLine then some (newL b (xs ++ ys) h) else none
  | _, _ => none
theorem om_addL (b : Bool) : OpM X (binaryOp .Add) (fAddL b) := OpM.of op_cat fun x y H Q p q h Φ r rp rq k => by
  unfold fAddL at k
  split at k
  · rename_i xs ys e1 e2
    split at k
    · rename_i hc
      obtain ⟨a, vs, h1, h2, h3⟩ := asM_ok r rp e1
      obtain ⟨c, us, g1, g2, g3⟩ := asM_ok r rq e2
      refine ⟨a, c, vs, us, h1, g1, h2, g2, by rw [← h3.length, ← g3.length]; exact hc, fun n hn => ?_⟩
      obtain ⟨Φ', e, r', q'⟩ := newL_ok (b := b) r (h3.append g3) hn
      exact k Φ' _ _ e r' q'
    · exact k.elim
  · exact k.elim
theorem Rs.rep {G : Gr} {Φ : Fo} {H : Hp} {xs : List PV} {vs : List V} (k : Rs G Φ H xs vs) : ∀ n : Nat, Rs G Φ H (List.replicate n xs).flatten (List.replicate n vs).flatten
  | 0 => rfl
  | n + 1 => by
    rw [List.replicate_succ, List.replicate_succ, List.flatten_cons, List.flatten_cons]
    exact k.append (Rs.rep k n)
def fRepL (b : Bool) : OpF := fun p q h => match asM h p, q with
  | some xs, .int k => if -(2 ^ 63) ≤ k ∧ k < 2 ^ 63 ∧ xs.length * k.toNat ≤ sizeLine then some (newL b (List.replicate k.toNat xs).flatten h) else none
  | _, _ => none
theorem om_repL (b : Bool) : OpM X (binaryOp .Mult) (fRepL b) := OpM.of op_rep fun x y H Q p q h Φ r rp rq k => by
  unfold fRepL at k
  split at k
  · rename_i xs i e1
    split at k
    · rename_i hc
      obtain ⟨a, vs, h1, h2, h3⟩ := asM_ok r rp e1
      refine ⟨a, i, vs, h1, rq, h2, hc.1, hc.2.1, by rw [← h3.length]; exact hc.2.2, fun n hn => ?_⟩
      obtain ⟨Φ', e, r', q'⟩ := newL_ok (b := b) r (h3.rep i.toNat) hn
      exact k Φ' _ _ e r' q'
    · exact k.elim
  · exact k.elim

/-! ### ==, in, is None -/
def fEqS : OpF := fun p q h => match p, q with
  | .str x, .str y => some (.bl (decide (x = y)), h)
  | _, _ => none
def fNeS : OpF := fun p q h => match p, q with
  | .str x, .str y => some (.bl (!decide (x = y)), h)
  | _, _ => none
def fEqD : OpF := fun p q h => match datH h p, datH h q with
  | some d, some e => if SeqAt.shaped d && SeqAt.shaped e then some (.bl (PyData.eqv d e), h) else none
  | _, _ => none
def fNeD : OpF := fun p q h => match datH h p, datH h q with
  | some d, some e => if SeqAt.shaped d && SeqAt.shaped e then some (.bl (!PyData.eqv d e), h) else none
  | _, _ => none
abbrev fEq : OpF := orF fEqS fEqD
abbrev fNe : OpF := orF fNeS fNeD
theorem om_eqS : OpM X (compareOp .Eq) fEqS := OpM.of op_eq fun x y H Q p q h Φ r rp rq k => by
  unfold fEqS at k
  split at k
  · rename_i i j
    rw [show x = .str i from rp, show y = .str j from rq]
    exact ⟨rfl, by rw [show decide (V.str i = V.str j) = decide (i = j) by simp]; exact k Φ H _ .refl r rfl⟩
  · exact k.elim
theorem om_neS : OpM X (compareOp .NotEq) fNeS := OpM.of op_ne fun x y H Q p q h Φ r rp rq k => by
  unfold fNeS at k
  split at k
  · rename_i i j
    rw [show x = .str i from rp, show y = .str j from rq]
    exact ⟨rfl, by rw [show decide (V.str i = V.str j) = decide (i = j) by simp]; exact k Φ H _ .refl r rfl⟩
  · exact k.elim
theorem om_eqD (hu : X.A.units + 64 < cLine) : OpM X (compareOp .Eq) fEqD := OpM.of (op_eqD hu) fun x y H Q p q h Φ r rp rq k => by
  unfold fEqD at k
  split at k
  · rename_i d e e1 e2
    split at k
    · rename_i hc
      rw [Bool.and_eq_true] at hc
      exact ⟨d, e, datH_ok r rp e1, datH_ok r rq e2, hc.1, hc.2, k Φ H _ .refl r rfl⟩
    · exact k.elim
  · exact k.elim
theorem om_neD (hu : X.A.units + 64 < cLine) : OpM X (compareOp .NotEq) fNeD := OpM.of (op_neD hu) fun x y H Q p q h Φ r rp rq k => by
  unfold fNeD at k
  split at k
  · rename_i d e e1 e2
    split at k
    · rename_i hc
      rw [Bool.and_eq_true] at hc
      exact ⟨d, e, datH_ok r rp e1, datH_ok r rq e2, hc.1, hc.2, k Φ H _ .refl r rfl⟩
    · exact k.elim
  · exact k.elim
theorem om_eq (hu : X.A.units + 64 < cLine) : OpM X (compareOp .Eq) fEq := om_eqS.or (om_eqD hu)
theorem om_ne (hu : X.A.units + 64 < cLine) : OpM X (compareOp .NotEq) fNe := om_neS.or (om_neD hu)
/-- one sign in a text -/
def fInS (neg : Bool) : OpF := fun p q h => match p, q with
  | .str x, .str z => match x.cps.toList with
    | [c] => some (.bl (if neg then !decide (c ∈ z.cps.toList) else decide (c ∈ z.cps.toList)), h)
    | _ => none
  | _, _ => none
theorem sign_of {x : Str} {c : Nat} (e : x.cps.toList = [c]) : x = ⟨#[c]⟩ := TL.ext_tl e
theorem om_inS : OpM X (compareOp .In) (fInS false) := OpM.of op_in_sign fun x y H Q p q h Φ r rp rq k => by
  unfold fInS at k
  split at k
  · rename_i i j
    split at k
    · rename_i c e
      refine ⟨c, j, by rw [← sign_of e]; exact rp, rq, k Φ H _ .refl r rfl⟩
    · exact k.elim
  · exact k.elim
theorem om_notInS : OpM X (compareOp .NotIn) (fInS true) := OpM.of op_notIn_sign fun x y H Q p q h Φ r rp rq k => by
  unfold fInS at k
  split at k
  · rename_i i j
    split at k
    · rename_i c e
      refine ⟨c, j, by rw [← sign_of e]; exact rp, rq, k Φ H _ .refl r rfl⟩
    · exact k.elim
  · exact k.elim
def asQ (h : PH) (p : PV) : Option (List PV) := match asL h p with
  | some xs => some xs
  | none => asT p
theorem asQ_ok {G : Gr} {Φ : Fo} {H : Hp} {h : PH} {p : PV} {v : V} {xs : List PV} (r : Hr G Φ H h) (rp : R G Φ H p v) (e : asQ h p = some xs) : ∃ a vs, v = .ref a ∧ (SqL G.K H a vs ∨ SqT G.K H a vs) ∧ Rs G Φ H xs vs := by
  unfold asQ at e
  split at e
  · rename_i ys e1
    cases e
    obtain ⟨a, vs, h1, h2, h3⟩ := asL_ok r rp e1
    exact ⟨a, vs, h1, .inl h2, h3⟩
  · obtain ⟨a, vs, h1, h2, h3⟩ := asT_ok rp e
    exact ⟨a, vs, h1, .inr h2, h3⟩
def fInQ (neg : Bool) : OpF := fun p q h => match toV p, (asQ h q).bind toVs with
  | some v, some vs => some (.bl (if neg then !inV v vs else inV v vs), h)
  | _, _ => none
theorem inQ_ok {G : Gr} {Φ : Fo} {H : Hp} {h : PH} {p q : PV} {x y : V} {Q : VK} {neg : Bool} (r : Hr G Φ H h) (rp : R G Φ H p x) (rq : R G Φ H q y) (k : okP (R G) G Q Φ H (fInQ neg p q h)) : rIn G.K neg x y H Q := by
  unfold fInQ at k
  split at k
  · rename_i v vs e1 e2
    cases e3 : asQ h q with
    | none => rw [e3] at e2; cases e2
    | some xs =>
      rw [e3] at e2
      obtain ⟨a, us, h1, h2, h3⟩ := asQ_ok r rq e3
      obtain ⟨g1, g2⟩ := toV_ok rp e1
      obtain ⟨g3, g4⟩ := toVs_ok h3 e2
      subst g1 g3
      exact ⟨a, us, h1, h2, g2, g4, k Φ H _ .refl r rfl⟩
  · exact k.elim
theorem om_inQ : OpM X (compareOp .In) (fInQ false) := OpM.of op_in_seq fun x y H Q p q h Φ r rp rq k => inQ_ok r rp rq k
theorem om_notInQ : OpM X (compareOp .NotIn) (fInQ true) := OpM.of op_notIn_seq fun x y H Q p q h Φ r rp rq k => inQ_ok r rp rq k
def isN : PV → Bool
  | .non => true
  | _ => false
theorem isN_ok {G : Gr} {Φ : Fo} {H : Hp} {p : PV} {v : V} (r : R G Φ H p v) : decide (v = .non) = isN p := by
  cases p <;> first
    | (rw [show v = _ from r]; rfl)
    | (rw [show v = .ref _ from r.1]; rfl)
    | (obtain ⟨a, h⟩ := r; obtain ⟨h1, h2⟩ := h; rw [h2]; rfl)
    | (obtain ⟨a, vs, h1, _⟩ := r; rw [h1]; rfl)
    | (obtain ⟨a, C, dx, kvs, h1, _⟩ := r; rw [h1]; rfl)
def fIsN : OpF := fun p q h => match q with
  | .non => some (.bl (isN p), h)
  | _ => none
def fNotN : OpF := fun p q h => match q with
  | .non => some (.bl (!isN p), h)
  | _ => none
theorem om_isN : OpM X (compareOp .Is) fIsN := OpM.of op_isN fun x y H Q p q h Φ r rp rq k => by
  unfold fIsN at k
  split at k
  · exact ⟨rq, by rw [isN_ok rp]; exact k Φ H _ .refl r rfl⟩
  · exact k.elim
theorem om_notN : OpM X (compareOp .IsNot) fNotN := OpM.of op_notN fun x y H Q p q h Φ r rp rq k => by
  unfold fNotN at k
  split at k
  · exact ⟨rq, by rw [isN_ok rp]; exact k Φ H _ .refl r rfl⟩
  · exact k.elim
def fNeg : UnF := fun p h => match p with
  | .int i => some (.int (-i), h)
  | _ => none
theorem um_neg : UnR X (unaryOp .USub) (rUn (gr X) fNeg) := by
  intro pins s σ H x v Q I rx ⟨p, h, Φ, r, rp, k⟩
  refine un_neg pins s σ H x v Q I rx ?_
  unfold fNeg at k
  split at k
  · rename_i i
    exact ⟨i, rp, k Φ H _ .refl r rfl⟩
  · exact k.elim

/-! ### subscripts, slices -/
def fIx : OpF := fun p q h => match q with
  | .int i => match asQ h p with
    | some xs => (atI xs i).map fun x => (x, h)
    | none => match p with
      | .str z => if z.length ≤ sizeLine then (atI z.cps.toList i).map fun c => (.str ⟨#[c]⟩, h) else none
      | _ => none
  | _ => none
theorem atI_Rs {G : Gr} {Φ : Fo} {H : Hp} {xs : List PV} {vs : List V} {i : Int} {x : PV} (r : Rs G Φ H xs vs) (e : atI xs i = some x) : ∃ v, atI vs i = some v ∧ R G Φ H x v := by
  unfold atI at e ⊢
  rw [← r.length]
  cases q : ixN xs.length i with
  | none => rw [q] at e; cases e
  | some j =>
    rw [q] at e
    exact Rs.get r e
theorem ixR_of {r r' : R2} (h : IxR X r) (i : ∀ x y H Q, r' x y H Q → r x y H Q) : IxR X r' := fun value slice pins s σ H x y v u Q I rx ry q hs => h value slice pins s σ H x y v u Q I rx ry (i _ _ _ _ q) hs
theorem ix_ok : IxR X (rOp (gr X) fIx) := ixR_of ix_seq fun x y H Q ⟨p, q, h, Φ, r, rp, rq, k⟩ => by
  unfold fIx at k
  split at k
  · rename_i i
    split at k
    · rename_i xs e
      cases e2 : atI xs i with
      | none => rw [e2] at k; exact k.elim
      | some z =>
        rw [e2] at k
        obtain ⟨a, vs, h1, h2, h3⟩ := asQ_ok r rp e
        obtain ⟨v, g1, g2⟩ := atI_Rs h3 e2
        have fin : Q v H := k Φ H v .refl r g2
        rcases h2 with h2 | h2
        · exact .inl ⟨a, vs, i, v, h1, rq, h2, g1, fin⟩
        · exact .inr (.inl ⟨a, vs, i, v, h1, rq, h2, g1, fin⟩)
    · split at k
      · rename_i z _
        split at k
        · rename_i hc
          cases e2 : atI z.cps.toList i with
          | none => rw [e2] at k; exact k.elim
          | some c =>
            rw [e2] at k
            exact .inr (.inr ⟨z, i, c, rp, rq, hc, e2, k Φ H _ .refl r rfl⟩)
        · exact k.elim
      · exact k.elim
  · exact k.elim
theorem me_ix {W : WX} {a b : Expr} {pos : Pos} {ma mb : EM} (ha : PE X a (tmE (gr X) W ma)) (hb : PE X b (tmE (gr X) W mb)) (hs : PlainIx b := by intro _ _; rfl) : PE X (.Subscript a b pos) (tmE (gr X) W (mBin fIx ma mb)) :=
  PE_imp (pe_ix ix_ok ha hb hs) fun _ _ _ q => bin_ok q
def cutG {α : Type} (xs : List α) (lo hi : Option Int) : List α := (xs.drop (HT.sIx xs.length 0 lo)).take (HT.sIx xs.length xs.length hi - HT.sIx xs.length 0 lo)
theorem cut_Rs {G : Gr} {Φ : Fo} {H : Hp} {xs : List PV} {vs : List V} {lo hi : Option Int} (r : Rs G Φ H xs vs) : Rs G Φ H (cutG xs lo hi) (cutV vs lo hi) := by
  unfold cutG cutV
  rw [r.length]
  exact (r.drop _).take _
abbrev SlF := PV → Option Int → Option Int → PH → Option (PV × PH)
def rSl (G : Gr) (g : SlF) : V → Option Int → Option Int → Hp → VK → Prop := fun x lo hi H Q => ∃ p h Φ, Hr G Φ H h ∧ R G Φ H p x ∧ okP (R G) G Q Φ H (g p lo hi h)
def fSl (b : Bool) : SlF := fun p lo hi h => match asL h p with
  | some xs => some (newL b (cutG xs lo hi) h)
  | none => match p with
    | .tup xs => some (.tup (cutG xs lo hi), h)
    | .str z => if z.length ≤ sizeLine then some (.str (cutS z lo hi), h) else none
    | _ => none
theorem cut_whole {α : Type} {xs : List α} {lo hi : Option Int} (h : HT.sIx xs.length 0 lo = 0 ∧ HT.sIx xs.length xs.length hi = xs.length) : cutG xs lo hi = xs := by
  unfold cutG
  rw [h.1, h.2]
  simp
theorem slR_of {r r' : V → Option Int → Option Int → Hp → VK → Prop} (h : SlR X r) (i : ∀ x lo hi H Q, r' x lo hi H Q → r x lo hi H Q) : SlR X r' := fun pins s σ H x v vl vu lo hi sl Q I rx a b c q => h pins s σ H x v vl vu lo hi sl Q I rx a b c (i _ _ _ _ _ q)
theorem sl_ok (b : Bool) : SlR X (rSl (gr X) (fSl b)) := slR_of (sl_list.or (sl_tupA.or sl_str)) fun x lo hi H Q ⟨p, h, Φ, r, rp, k⟩ => by
  unfold fSl at k
  split at k
  · rename_i xs e
    obtain ⟨a, vs, h1, h2, h3⟩ := asL_ok r rp e
    refine .inl ⟨a, vs, h1, h2, fun n hn => ?_⟩
    obtain ⟨Φ', e, r', q'⟩ := newL_ok (b := b) r (cut_Rs (lo := lo) (hi := hi) h3) hn
    exact k Φ' _ _ e r' q'
  · split at k
    · rename_i xs _
      obtain ⟨a, vs, h1, h2, h3⟩ := asT_ok rp (xs := xs) rfl
      refine .inr (.inl ⟨a, vs, h1, h2, fun z => ?_, fun _ n hn => ?_⟩)
      · rw [← h3.length] at z
        rw [cut_whole z] at k
        rw [← h1]
        exact k Φ H x .refl r rp
      · obtain ⟨e, r', q'⟩ := newT_ok r (cut_Rs (lo := lo) (hi := hi) h3) hn
        exact k Φ _ _ e r' q'
    · rename_i z _
      split at k
      · rename_i hc
        exact .inr (.inr ⟨z, rp, hc, k Φ H _ .refl r rfl⟩)
      · exact k.elim
    · exact k.elim
def mPart (a : EM) : Ro → PH → Out (Option Int) := fun ρ h => (a ρ h).bind fun p h1 => match p with
  | .int i => .ok (some i) h1
  | _ => .bad
def mNoPart : Ro → PH → Out (Option Int) := fun _ h => .ok none h
abbrev tmO (G : Gr) (W : WX) (m : Ro → PH → Out (Option Int)) : L2.TO := tm rO G W m
theorem PO_imp {e : Option Expr} {t t' : L2.TO} (h : L2.PO X e t) (i : ∀ σ H Q, t' σ H Q → t σ H Q) : L2.PO X e t' := ⟨fun pins s σ H Q I q => h.run pins s σ H Q I (i _ _ _ q)⟩
theorem mp_none {W : WX} : L2.PO X none (tmO (gr X) W mNoPart) := PO_imp po_none fun σ H Q ⟨ρ, h, Φ, r, rs, q⟩ => q Φ H none .refl r rfl
theorem mp_some {W : WX} {e : Expr} {m : EM} (he : PE X e (tmE (gr X) W m)) : L2.PO X (some e) (tmO (gr X) W (mPart m)) := PO_imp (po_some he) fun σ H Q ⟨ρ, h, Φ, r, rs, q⟩ =>
  ⟨ρ, h, Φ, r, rs, okO.bind q fun p h1 Φ1 H1 x e1 r1 rp q1 => by
    cases p with
    | int i => exact ⟨i, rp, q1 Φ1 H1 _ .refl r1 rfl⟩
    | _ => exact q1.elim⟩
def mSl (g : SlF) (a : EM) (lo hi : Ro → PH → Out (Option Int)) : EM := fun ρ h => (a ρ h).bind fun p h1 => (lo ρ h1).bind fun l h2 => (hi ρ h2).bind fun u h3 => opt (g p l u h3)
theorem me_sl {W : WX} {a : Expr} {lo hi : Option Expr} {p2 pos : Pos} {ma : EM} {ml mh : Ro → PH → Out (Option Int)} (b : Bool) (ha : PE X a (tmE (gr X) W ma)) (hl : L2.PO X lo (tmO (gr X) W ml)) (hu : L2.PO X hi (tmO (gr X) W mh)) :
    PE X (.Subscript a (.Slice lo hi none p2) pos) (tmE (gr X) W (mSl (fSl b) ma ml mh)) := PE_imp (pe_slice (sl_ok b) ha hl hu) fun σ H Q ⟨ρ, h, Φ, r, rs, q⟩ =>
  ⟨ρ, h, Φ, r, rs, okO.bind q fun p h1 Φ1 H1 x e1 r1 rp q1 => ⟨ρ, h1, Φ1, r1, rs.ext e1, okO.bind q1 fun l h2 Φ2 H2 l' e2 r2 rl q2 => ⟨ρ, h2, Φ2, r2, (rs.ext e1).ext e2, okO.bind q2 fun u h3 Φ3 H3 u' e3 r3 ru q3 => by
    cases rl
    cases ru
    exact ⟨p, h3, Φ3, r3, (rp.ext e2).ext e3, q3.opt⟩⟩⟩⟩

/-! ### displays -/
def mTup (as : AM) : EM := fun ρ h => (as ρ h).bind fun ps h1 => if ps.length ≤ sizeLine then .ok (.tup ps) h1 else .bad
def mLst (b : Bool) (as : AM) : EM := fun ρ h => (as ρ h).bind fun ps h1 => if ps.length ≤ sizeLine then .ok (newL b ps h1).1 (newL b ps h1).2 else .bad
theorem me_tup {W : WX} {es : List Expr} {m : AM} {x1} {pos : Pos} (ha : PA X es (tmA (gr X) W m)) : PE X (.Tuple es x1 pos) (tmE (gr X) W (mTup m)) := PE_imp (pe_tup ha) fun σ H Q ⟨ρ, h, Φ, r, rs, q⟩ =>
  ⟨ρ, h, Φ, r, rs, okO.bind q fun ps h1 Φ1 H1 xs e1 r1 rp q1 => by
    split at q1
    · rename_i hc
      refine ⟨by rw [← rp.length]; exact hc, fun n hn => ?_⟩
      obtain ⟨e, r', q'⟩ := newT_ok r1 rp hn
      exact q1 Φ1 _ _ e r' q'
    · exact q1.elim⟩
theorem me_lst {W : WX} {es : List Expr} {m : AM} {pos : Pos} (b : Bool) (ha : PA X es (tmA (gr X) W m)) : PE X (.List es pos) (tmE (gr X) W (mLst b m)) := PE_imp (pe_lst ha) fun σ H Q ⟨ρ, h, Φ, r, rs, q⟩ =>
  ⟨ρ, h, Φ, r, rs, okO.bind q fun ps h1 Φ1 H1 xs e1 r1 rp q1 => by
    split at q1
    · rename_i hc
      refine ⟨by rw [← rp.length]; exact hc, fun n hn => ?_⟩
      obtain ⟨Φ', e, r', q'⟩ := newL_ok (b := b) r1 rp hn
      exact q1 Φ' _ _ e r' q'
    · exact q1.elim⟩
end
end Ev
/-! Ev4: built-ins that are called, methods of built-in types. -/
namespace Ev
open PySem PySem.Spec PyProof.Rows L2

section
variable {G : Gr} {Φ : Fo} {H : Hp} {h : PH} {Q : VK}
theorem Rs.one {p : PV} {vs : List V} (r : Rs G Φ H [p] vs) : ∃ v, vs = [v] ∧ R G Φ H p v := by
  obtain ⟨v, r1, rfl, h2, h3⟩ := r
  rw [show r1 = [] from h3]
  exact ⟨v, rfl, h2⟩
theorem Rs.two {p q : PV} {vs : List V} (r : Rs G Φ H [p, q] vs) : ∃ v u, vs = [v, u] ∧ R G Φ H p v ∧ R G Φ H q u := by
  obtain ⟨v, r1, rfl, h2, h3⟩ := r
  obtain ⟨u, rfl, h4⟩ := h3.one
  exact ⟨v, u, rfl, h2, h4⟩
/-- the values of a list, each as f has it -/
def mapO {α : Type} (f : PV → Option α) : List PV → Option (List α)
  | [] => some []
  | p :: ps => match f p, mapO f ps with
    | some a, some l => some (a :: l)
    | _, _ => none
def oB : PV → Option Bool
  | .bl b => some b
  | _ => none
def oI : PV → Option Int
  | .int b => some b
  | _ => none
def oS : PV → Option Str
  | .str b => some b
  | _ => none
abbrev asBs : List PV → Option (List Bool) := mapO oB
abbrev asIs : List PV → Option (List Int) := mapO oI
abbrev asSs : List PV → Option (List Str) := mapO oS
theorem mapO_ok {α : Type} {f : PV → Option α} {c : α → V} (hf : ∀ {p : PV} {v : V} {a : α}, R G Φ H p v → f p = some a → v = c a) : ∀ {ps : List PV} {vs : List V} {bs : List α}, Rs G Φ H ps vs → mapO f ps = some bs → vs = bs.map c
  | [], _, _, r, e => by cases e; exact r
  | p :: ps, _, bs, r, e => by
    obtain ⟨v, vr, rfl, h2, h3⟩ := r
    unfold mapO at e
    split at e
    · rename_i a l e1 e2
      cases e
      rw [List.map_cons, mapO_ok hf h3 e2, hf h2 e1]
    · cases e
theorem oB_ok {p : PV} {v : V} {b : Bool} (r : R G Φ H p v) (e : oB p = some b) : v = .bl b := by
  cases p <;> first
    | (cases e; exact r)
    | cases e
theorem oI_ok {p : PV} {v : V} {b : Int} (r : R G Φ H p v) (e : oI p = some b) : v = .int b := by
  cases p <;> first
    | (cases e; exact r)
    | cases e
theorem oS_ok {p : PV} {v : V} {b : Str} (r : R G Φ H p v) (e : oS p = some b) : v = .str b := by
  cases p <;> first
    | (cases e; exact r)
    | cases e
theorem asBs_ok {ps : List PV} {vs : List V} {bs : List Bool} (r : Rs G Φ H ps vs) (e : asBs ps = some bs) : vs = bs.map V.bl := mapO_ok (fun r e => oB_ok r e) r e
theorem asIs_ok {ps : List PV} {vs : List V} {bs : List Int} (r : Rs G Φ H ps vs) (e : asIs ps = some bs) : vs = bs.map V.int := mapO_ok (fun r e => oI_ok r e) r e
theorem asSs_ok {ps : List PV} {vs : List V} {bs : List Str} (r : Rs G Φ H ps vs) (e : asSs ps = some bs) : vs = bs.map V.str := mapO_ok (fun r e => oS_ok r e) r e
theorem mapO_map {α β : Type} {f : PV → Option β} {g : α → PV} {k : α → β} (hf : ∀ a, f (g a) = some (k a)) : ∀ l : List α, mapO f (l.map g) = some (l.map k)
  | [] => rfl
  | a :: l => by
    rw [List.map_cons, List.map_cons]
    show (match f (g a), mapO f (l.map g) with
      | some a, some l => some (a :: l)
      | _, _ => none) = _
    rw [hf a, mapO_map hf l]
theorem asBs_map (bs : List Bool) : asBs (bs.map PV.bl) = some bs := by
  have h := mapO_map (f := oB) (g := PV.bl) (k := fun b => b) (fun _ => rfl) bs
  rwa [List.map_id'] at h
theorem asIs_map (bs : List Int) : asIs (bs.map PV.int) = some bs := by
  have h := mapO_map (f := oI) (g := PV.int) (k := fun b => b) (fun _ => rfl) bs
  rwa [List.map_id'] at h
theorem asSs_map (bs : List Str) : asSs (bs.map PV.str) = some bs := by
  have h := mapO_map (f := oS) (g := PV.str) (k := fun b => b) (fun _ => rfl) bs
  rwa [List.map_id'] at h
theorem Rs.strs : ∀ ys : List Str, Rs G Φ H (ys.map PV.str) (ys.map V.str)
  | [] => rfl
  | y :: ys => ⟨_, _, rfl, rfl, Rs.strs ys⟩
theorem Rs.ints : ∀ ys : List Int, Rs G Φ H (ys.map PV.int) (ys.map V.int)
  | [] => rfl
  | y :: ys => ⟨_, _, rfl, rfl, Rs.ints ys⟩
end

section
variable {X : Cx}
def fLen : CF := fun ps h => match ps with
  | [p] => match asQ h p with
    | some xs => some (.int xs.length, h)
    | none => match p with
      | .str z => if z.length ≤ sizeLine then some (.int z.length, h) else none
      | _ => none
  | _ => none
theorem cm_len : CallM X (.builtin "len") fLen := CallM.of call_len fun xs H Q ps h Φ r rs k => by
  unfold fLen at k
  split at k
  · rename_i p
    obtain ⟨v, rfl, rv⟩ := rs.one
    split at k
    · rename_i ys e
      obtain ⟨a, vs, rfl, h2, h3⟩ := asQ_ok r rv e
      refine ⟨.ref a, ys.length, rfl, ?_, k Φ H _ .refl r rfl⟩
      rcases h2 with h2 | h2
      · exact .inl ⟨vs, h2, h3.length⟩
      · exact .inr ⟨vs, h2, h3.length⟩
    · split at k
      · rename_i z _
        split at k
        · rename_i hc
          refine ⟨v, z.length, rfl, ?_, k Φ H _ .refl r rfl⟩
          rw [show v = .str z from rv]
          exact ⟨hc, rfl⟩
        · exact k.elim
      · exact k.elim
  · exact k.elim
def fAbs : CF := fun ps h => match ps with
  | [.int i] => some (.int (if i < 0 then -i else i), h)
  | _ => none
theorem cm_abs : CallM X (.builtin "abs") fAbs := CallM.of call_abs fun xs H Q ps h Φ r rs k => by
  unfold fAbs at k
  split at k
  · rename_i i
    obtain ⟨v, rfl, rv⟩ := rs.one
    exact ⟨i, by rw [show v = .int i from rv], k Φ H _ .refl r rfl⟩
  · exact k.elim
def fInt1 : CF := fun ps h => match ps with
  | [.int i] => some (.int i, h)
  | [.bl b] => some (.int (if b then 1 else 0), h)
  | _ => none
def fInt2 : CF := fun ps h => match ps with
  | [.str a] => match PySem.intText? a with
    | some n => if a.length ≤ 640 then some (.int n, h) else none
    | none => none
  | _ => none
abbrev fInt : CF := orC fInt1 fInt2
theorem cm_int1 : CallM X (.type "int") fInt1 := CallM.of call_int1 fun xs H Q ps h Φ r rs k => by
  unfold fInt1 at k
  split at k
  · rename_i i
    obtain ⟨v, rfl, rv⟩ := rs.one
    exact .inl ⟨i, by rw [show v = .int i from rv], k Φ H _ .refl r rfl⟩
  · rename_i i
    obtain ⟨v, rfl, rv⟩ := rs.one
    exact .inr ⟨i, by rw [show v = .bl i from rv], k Φ H _ .refl r rfl⟩
  · exact k.elim
theorem cm_int2 : CallM X (.type "int") fInt2 := CallM.of call_int_str fun xs H Q ps h Φ r rs k => by
  unfold fInt2 at k
  split at k
  · rename_i a
    obtain ⟨v, rfl, rv⟩ := rs.one
    split at k
    · rename_i n e
      split at k
      · rename_i hc
        exact ⟨a, n, by rw [show v = .str a from rv], e, hc, k Φ H _ .refl r rfl⟩
      · exact k.elim
    · exact k.elim
  · exact k.elim
theorem cm_int : CallM X (.type "int") fInt := cm_int1.or cm_int2
def fStr : CF := fun ps h => match ps with
  | [.int i] => if i.natAbs.log2 < 1920 then some (.str (toString i), h) else none
  | _ => none
theorem cm_str : CallM X (.type "str") fStr := CallM.of call_str_int fun xs H Q ps h Φ r rs k => by
  unfold fStr at k
  split at k
  · rename_i i
    obtain ⟨v, rfl, rv⟩ := rs.one
    split at k
    · rename_i hc
      exact ⟨i, by rw [show v = .int i from rv], hc, k Φ H _ .refl r rfl⟩
    · exact k.elim
  · exact k.elim
def fTuple : CF := fun ps h => match ps with
  | [p] => (asQ h p).map fun xs => (.tup xs, h)
  | _ => none
theorem cm_tuple : CallM X (.type "tuple") fTuple := CallM.of call_tuple_of fun xs H Q ps h Φ r rs k => by
  unfold fTuple at k
  split at k
  · rename_i p
    obtain ⟨v, rfl, rv⟩ := rs.one
    cases e : asQ h p with
    | none => rw [e] at k; exact k.elim
    | some ys =>
      rw [e] at k
      unfold asQ at e
      split at e
      · rename_i ys' e1
        cases e
        obtain ⟨a, vs, rfl, h2, h3⟩ := asL_ok r rv e1
        refine ⟨a, vs, rfl, .inl ⟨h2, fun l hl => ?_⟩⟩
        obtain ⟨e', r', q'⟩ := newT_ok r h3 hl
        exact k Φ _ _ e' r' q'
      · obtain ⟨a, vs, h1, h2, h3⟩ := asT_ok rv e
        subst h1
        refine ⟨a, vs, rfl, .inr ⟨h2, k Φ H _ .refl r ?_⟩⟩
        cases p <;> first
          | (cases e; exact rv)
          | cases e
  · exact k.elim
def fList (b : Bool) : CF := fun ps h => match ps with
  | [p] => (asQ h p).map fun xs => newL b xs h
  | _ => none
theorem cm_list (b : Bool) : CallM X (.type "list") (fList b) := CallM.of call_list_of fun xs H Q ps h Φ r rs k => by
  unfold fList at k
  split at k
  · rename_i p
    obtain ⟨v, rfl, rv⟩ := rs.one
    cases e : asQ h p with
    | none => rw [e] at k; exact k.elim
    | some ys =>
      rw [e] at k
      obtain ⟨a, vs, rfl, h2, h3⟩ := asQ_ok r rv e
      refine ⟨a, vs, rfl, h2, fun l hl => ?_⟩
      obtain ⟨Φ', e', r', q'⟩ := newL_ok (b := b) r h3 hl
      exact k Φ' _ _ e' r' q'
  · exact k.elim
def fAll : CF := fun ps h => match ps with
  | [p] => ((asL h p).bind asBs).map fun bs => (.bl (bs.all id), h)
  | _ => none
def fAny : CF := fun ps h => match ps with
  | [p] => ((asL h p).bind asBs).map fun bs => (.bl (bs.any id), h)
  | _ => none
def fSum : CF := fun ps h => match ps with
  | [p] => ((asL h p).bind asIs).map fun bs => (.int bs.sum, h)
  | _ => none
theorem bs_ok {G : Gr} {Φ : Fo} {H : Hp} {h : PH} {p : PV} {v : V} {α : Type} {f : List PV → Option (List α)} {c : α → V} {bs : List α} (hf : ∀ {ps : List PV} {vs : List V} {bs : List α}, Rs G Φ H ps vs → f ps = some bs → vs = bs.map c)
    (r : Hr G Φ H h) (rv : R G Φ H p v) (e : (asL h p).bind f = some bs) : ∃ a, v = .ref a ∧ SqL G.K H a (bs.map c) := by
  cases e1 : asL h p with
  | none => rw [e1] at e; cases e
  | some xs =>
    rw [e1] at e
    obtain ⟨a, vs, rfl, h2, h3⟩ := asL_ok r rv e1
    exact ⟨a, rfl, by rw [← hf h3 e]; exact h2⟩
theorem cm_all (hc : X.calm = true) : CallM X (.builtin "all") fAll := CallM.of (cr_all hc) fun xs H Q ps h Φ r rs k => by
  unfold fAll at k
  split at k
  · rename_i p
    obtain ⟨v, rfl, rv⟩ := rs.one
    cases e : (asL h p).bind asBs with
    | none => rw [e] at k; exact k.elim
    | some bs =>
      rw [e] at k
      obtain ⟨a, rfl, h2⟩ := bs_ok (c := V.bl) asBs_ok r rv e
      exact ⟨a, bs, rfl, h2, k Φ H _ .refl r rfl⟩
  · exact k.elim
theorem cm_any (hc : X.calm = true) : CallM X (.builtin "any") fAny := CallM.of (cr_any hc) fun xs H Q ps h Φ r rs k => by
  unfold fAny at k
  split at k
  · rename_i p
    obtain ⟨v, rfl, rv⟩ := rs.one
    cases e : (asL h p).bind asBs with
    | none => rw [e] at k; exact k.elim
    | some bs =>
      rw [e] at k
      obtain ⟨a, rfl, h2⟩ := bs_ok (c := V.bl) asBs_ok r rv e
      exact ⟨a, bs, rfl, h2, k Φ H _ .refl r rfl⟩
  · exact k.elim
theorem cm_sum (hc : X.calm = true) : CallM X (.builtin "sum") fSum := CallM.of (cr_sum hc) fun xs H Q ps h Φ r rs k => by
  unfold fSum at k
  split at k
  · rename_i p
    obtain ⟨v, rfl, rv⟩ := rs.one
    cases e : (asL h p).bind asIs with
    | none => rw [e] at k; exact k.elim
    | some bs =>
      rw [e] at k
      obtain ⟨a, rfl, h2⟩ := bs_ok (c := V.int) asIs_ok r rv e
      exact ⟨a, bs, rfl, h2, k Φ H _ .refl r rfl⟩
  · exact k.elim

/-! ### isinstance, built-in classes -/
def tyN (h : PH) : PV → Option String
  | .non => some "NoneType"
  | .bl _ => some "bool"
  | .int _ => some "int"
  | .str _ => some "str"
  | .tup _ => some "tuple"
  | .lst _ => some "list"
  | .rol _ => some "list"
  | .dct _ _ => some "dict"
  | .ref n => match h[n]? with
    | some (.lst _) => some "list"
    | some (.dct _ _) => some "dict"
    | _ => none
  | _ => none
theorem tyN_ok {G : Gr} {Φ : Fo} {H : Hp} {h : PH} {p : PV} {v : V} {n : String} (r : Hr G Φ H h) (rp : R G Φ H p v) (e : tyN h p = some n) : TyX G.K H v (.type n) := by
  cases p with
  | non => cases e; rw [show v = _ from rp]; exact .base .non
  | bl b => cases e; rw [show v = _ from rp]; exact .base (.bl b)
  | int b => cases e; rw [show v = _ from rp]; exact .base (.int b)
  | str b => cases e; rw [show v = _ from rp]; exact .base (.str b)
  | tup xs =>
    cases e
    obtain ⟨a, vs, rfl, h2, h3⟩ := rp
    rcases h2 with ⟨_, h2 | ⟨o, h2⟩⟩ | ⟨o, its, n, k, c, _⟩
    · exact .base (.tup h2)
    · exact .fTuple h2
    · exact .kTuple k c
  | lst xs =>
    cases e
    obtain ⟨a, vs, rfl, h1, h2, h3⟩ := rp
    exact .base (.lst h2)
  | rol xs =>
    cases e
    obtain ⟨a, vs, rfl, h2, h3⟩ := rp
    rcases h2 with ⟨_, h2 | ⟨o, h2⟩⟩ | ⟨o, its, n, k, c, _⟩
    · exact .base (.lst h2)
    · exact .base (.frz h2)
    · exact .kList k c
  | dct ks xs =>
    cases e
    obtain ⟨a, kvs, rfl, h1, h2 | ⟨o, h2⟩, h3⟩ := rp
    · exact .base (.dK h2)
    · exact .fDict h2
  | ref m =>
    unfold tyN at e
    cases q : h[m]? with
    | none => simp [q] at e
    | some o =>
      obtain ⟨a, h1, ho⟩ := r.ob m o q
      obtain ⟨b, h4, h5⟩ := rp
      rw [h1] at h4; cases h4
      cases o with
      | lst ys =>
        simp [q] at e; subst e
        obtain ⟨vs, h2, h3⟩ := ho
        rw [h5]; exact .base (.lst h2)
      | dct ks ys =>
        simp [q] at e; subst e
        obtain ⟨kvs, h2, h3⟩ := ho
        rw [h5]; exact .base (.dK h2)
      | _ => simp [q] at e
  | _ => cases e
def fIsi : CF := fun ps h => match ps with
  | [p, .ty n] => match tyN h p with
    | some t => (kitB t n).map fun b => (.bl b, h)
    | none => none
  | _ => none
theorem cm_isi : CallM X (.builtin "isinstance") fIsi := CallM.of call_isi fun xs H Q ps h Φ r rs k => by
  unfold fIsi at k
  split at k
  · rename_i p n
    obtain ⟨v, u, rfl, rv, ru⟩ := rs.two
    split at k
    · rename_i t e
      cases e2 : kitB t n with
      | none => rw [e2] at k; exact k.elim
      | some b =>
        rw [e2] at k
        exact ⟨v, .ty n, .type t, .type n, b, by rw [show u = .ty n from ru], .ty n, tyN_ok r rv e, kit_ty e2, k Φ H _ .refl r rfl⟩
    · exact k.elim
  · exact k.elim

/-! ### methods -/
abbrev MF := PV → List PV → PH → Option (PV × PH)
def rMt (G : Gr) (g : MF) : V → List V → Hp → VK → Prop := fun x xs H Q => ∃ p ps h Φ, Hr G Φ H h ∧ R G Φ H p x ∧ Rs G Φ H ps xs ∧ okP (R G) G Q Φ H (g p ps h)
theorem MtR_of {id : String} {r r' : V → List V → Hp → VK → Prop} (h : MtR X id r) (i : ∀ x xs H Q, r' x xs H Q → r x xs H Q) : MtR X id r' := fun pins s σ H x xs v us Q I rx rs q => h pins s σ H x xs v us Q I rx rs (i _ _ _ _ q)
def isS : PV → Bool
  | .str _ => true
  | _ => false
def isT (T : String) (h : PH) (p : PV) : Bool := (isS p && decide (T = "str")) || ((asL h p).isSome && decide (T = "list"))
theorem isT_ok {G : Gr} {Φ : Fo} {H : Hp} {h : PH} {p : PV} {v : V} {T : String} (r : Hr G Φ H h) (rp : R G Φ H p v) (e : isT T h p = true) : tyV G.K T v H := by
  rcases Bool.or_eq_true_iff.mp e with e | e
  · obtain ⟨e1, e2⟩ := Bool.and_eq_true_iff.mp e
    cases p with
    | str z =>
      rw [show v = V.str z from rp]
      exact of_decide_eq_true (p := T = "str") e2
    | _ => cases e1
  · obtain ⟨e1, e2⟩ := Bool.and_eq_true_iff.mp e
    obtain ⟨xs, e1⟩ := Option.isSome_iff_exists.mp e1
    obtain ⟨a, vs, rfl, h2, h3⟩ := asL_ok r rp e1
    exact .inl ⟨of_decide_eq_true e2, vs, h2⟩
def mMt (T : String) (g : MF) (a : EM) (as : AM) : EM := fun ρ h => (a ρ h).bind fun p h1 => if isT T h1 p then (as ρ h1).bind fun ps h2 => opt (g p ps h2) else .bad
variable {o e : Expr} {es : List Expr} {name : Str} {apos cpos : Pos} {T id : String} {g : MF} {W : WX} {ma : EM} {mr : AM}
theorem me_mt (pa : PlainAttrs T) (slot : Slot T name id) (hty : typeOf (.builtin id) = pure (.type "method_descriptor")) (hm : MtR X id (rMt (gr X) g)) (ho : PE X o (tmE (gr X) W ma)) (ha : PA X (e :: es) (tmA (gr X) W mr))
    (hbase : attributeBase o name X.env (eval o X.env) = eval o X.env := by rfl)
    (hfew : ((backTo cpos (starEach (e :: es) X.env)).all (fun x => !x.1) && (backToKw cpos (keywordEach [] X.env)).all (fun x => x.1.isSome)
      && decide ((e :: es).length + ([] : List Keyword).length + (if ([] : List Keyword).isEmpty then 0 else 1) < 30)) = true := by rfl)
    (hline : (apos.endLine == cpos.line) = true := by rfl) (hs : starEach (e :: es) X.env = (false, eval e X.env) :: starEach es X.env := by rfl) (hplain : (backTo cpos (starEach es X.env)).any (·.1) = false := by rfl) :
    PE X (.Call (.Attribute o name apos) (e :: es) [] cpos) (tmE (gr X) W (mMt T g ma mr)) := PE_imp (pe_bm pa slot hty hm ho ha hbase hfew hline hs hplain) fun σ H Q ⟨ρ, h, Φ, r, rs, q⟩ =>
  ⟨ρ, h, Φ, r, rs, okO.bind q fun p h1 Φ1 H1 x e1 r1 rp q1 => by
    split at q1
    · rename_i hc
      exact ⟨isT_ok r1 rp hc, ρ, h1, Φ1, r1, rs.ext e1, okO.bind q1 fun ps h2 Φ2 H2 xs e2 r2 rp2 q2 => ⟨p, ps, h2, Φ2, r2, rp.ext e2, rp2, q2.opt⟩⟩
    · exact q1.elim⟩
/-- xs.append(x) -/
def fAppend : MF := fun p ps h => match p, ps with
  | .ref n, [x] => match h[n]? with
    | some (.lst xs) => if xs.length < sizeLine then some (.non, h.set n (.lst (xs ++ [x]))) else none
    | _ => none
  | _, _ => none
theorem mm_append : MtR X "list.append" (rMt (gr X) fAppend) := MtR_of mt_append fun x xs H Q ⟨p, ps, h, Φ, r, rp, rs, k⟩ => by
  unfold fAppend at k
  split at k
  · rename_i n y
    split at k
    · rename_i ys e
      split at k
      · rename_i hc
        obtain ⟨u, rfl, ru⟩ := rs.one
        obtain ⟨a, h1, vs, h2, h3⟩ := r.ob n _ e
        obtain ⟨b, h4, h5⟩ := rp
        rw [h1] at h4; cases h4
        have ex : Ext Φ H Φ (upd H a (.lst (vs ++ [u]))) := Ext.wrote h1
        exact ⟨a, vs, u, h5, rfl, h2, by rw [← h3.length]; exact hc, k Φ _ _ ex (r.wrote h1 ⟨_, upd_same, (h3.snoc ru).ext ex⟩) rfl⟩
      · exact k.elim
    · exact k.elim
  · exact k.elim
/-- s.split(t) -/
def fSplit (b : Bool) : MF := fun p ps h => match p, ps with
  | .str x, [.str y] => if (y.length == 0) = false ∧ x.length + 2 ≤ sizeLine then some (newL b ((Txt.split x y).map PV.str) h) else none
  | _, _ => none
theorem mm_split (b : Bool) : MtR X "str.split" (rMt (gr X) (fSplit b)) := MtR_of mt_split fun x xs H Q ⟨p, ps, h, Φ, r, rp, rs, k⟩ => by
  unfold fSplit at k
  split at k
  · rename_i y z
    split at k
    · rename_i hc
      obtain ⟨u, rfl, ru⟩ := rs.one
      refine ⟨y, z, rp, by rw [show u = .str z from ru], hc.1, hc.2, fun n hn => ?_⟩
      obtain ⟨Φ', e', r', q'⟩ := newL_ok (b := b) r (Rs.strs (Txt.split y z)) hn
      exact k Φ' _ _ e' r' q'
    · exact k.elim
  · exact k.elim
/-- s.join(xs) -/
def fJoin : MF := fun p ps h => match p, ps with
  | .str x, [q] => match (asQ h q).bind asSs with
    | some ys => if (ys.map (·.length)).sum + ys.length * x.length ≤ 16777216 then some (.str (Txt.join x ys), h) else none
    | none => none
  | _, _ => none
theorem mm_join : MtR X "str.join" (rMt (gr X) fJoin) := MtR_of mt_join fun x xs H Q ⟨p, ps, h, Φ, r, rp, rs, k⟩ => by
  unfold fJoin at k
  split at k
  · rename_i y q
    obtain ⟨u, rfl, ru⟩ := rs.one
    split at k
    · rename_i ys e
      split at k
      · rename_i hc
        cases e1 : asQ h q with
        | none => rw [e1] at e; cases e
        | some zs =>
          rw [e1] at e
          obtain ⟨a, vs, h1, h2, h3⟩ := asQ_ok r ru e1
          have e3 := asSs_ok h3 e
          subst e3
          exact ⟨y, a, ys, rp, by rw [h1], h2, hc, k Φ H _ .refl r rfl⟩
      · exact k.elim
    · exact k.elim
  · exact k.elim
def mAppend := mMt "list" fAppend
theorem me_append (ho : PE X o (tmE (gr X) W ma)) (ha : PA X [e] (tmA (gr X) W mr)) (hbase : attributeBase o "append" X.env (eval o X.env) = eval o X.env := by rfl)
    (hfew : ((backTo cpos (starEach [e] X.env)).all (fun x => !x.1) && (backToKw cpos (keywordEach [] X.env)).all (fun x => x.1.isSome)
      && decide ([e].length + ([] : List Keyword).length + (if ([] : List Keyword).isEmpty then 0 else 1) < 30)) = true := by rfl)
    (hline : (apos.endLine == cpos.line) = true := by rfl) (hs : starEach [e] X.env = (false, eval e X.env) :: starEach [] X.env := by rfl) (hplain : (backTo cpos (starEach [] X.env)).any (·.1) = false := by rfl) :
    PE X (.Call (.Attribute o "append" apos) [e] [] cpos) (tmE (gr X) W (mMt "list" fAppend ma mr)) :=
  me_mt PySem.F.plainAttrs_list PySem.F.slot_list_append PySem.F.type_list_append mm_append ho ha hbase hfew hline hs hplain
theorem me_split (b : Bool) (ho : PE X o (tmE (gr X) W ma)) (ha : PA X [e] (tmA (gr X) W mr)) (hbase : attributeBase o "split" X.env (eval o X.env) = eval o X.env := by rfl)
    (hfew : ((backTo cpos (starEach [e] X.env)).all (fun x => !x.1) && (backToKw cpos (keywordEach [] X.env)).all (fun x => x.1.isSome)
      && decide ([e].length + ([] : List Keyword).length + (if ([] : List Keyword).isEmpty then 0 else 1) < 30)) = true := by rfl)
    (hline : (apos.endLine == cpos.line) = true := by rfl) (hs : starEach [e] X.env = (false, eval e X.env) :: starEach [] X.env := by rfl) (hplain : (backTo cpos (starEach [] X.env)).any (·.1) = false := by rfl) :
    PE X (.Call (.Attribute o "split" apos) [e] [] cpos) (tmE (gr X) W (mMt "str" (fSplit b) ma mr)) :=
  me_mt PySem.F.plainAttrs_str PySem.F.slot_str_split PySem.F.type_str_split (mm_split b) ho ha hbase hfew hline hs hplain
theorem me_join (ho : PE X o (tmE (gr X) W ma)) (ha : PA X [e] (tmA (gr X) W mr)) (hbase : attributeBase o "join" X.env (eval o X.env) = eval o X.env := by rfl)
    (hfew : ((backTo cpos (starEach [e] X.env)).all (fun x => !x.1) && (backToKw cpos (keywordEach [] X.env)).all (fun x => x.1.isSome)
      && decide ([e].length + ([] : List Keyword).length + (if ([] : List Keyword).isEmpty then 0 else 1) < 30)) = true := by rfl)
    (hline : (apos.endLine == cpos.line) = true := by rfl) (hs : starEach [e] X.env = (false, eval e X.env) :: starEach [] X.env := by rfl) (hplain : (backTo cpos (starEach [] X.env)).any (·.1) = false := by rfl) :
    PE X (.Call (.Attribute o "join" apos) [e] [] cpos) (tmE (gr X) W (mMt "str" fJoin ma mr)) :=
  me_mt PySem.F.plainAttrs_str PySem.F.slot_str_join PySem.F.type_str_join mm_join ho ha hbase hfew hline hs hplain
end
end Ev
/-! Ev5: statements, targets, loops. -/
namespace Ev
open PySem PySem.Spec PyProof.Rows L2

inductive SO where
  | nx (ρ : Ro) (h : PH) | rt (v : PV) (h : PH) | bk (ρ : Ro) (h : PH) | ct (ρ : Ro) (h : PH) | ex (c : Str) (fs : List Str) (xs : List PV) (ρ : Ro) (h : PH) | bad
abbrev SM := Ro → PH → SO
def okS (G : Gr) (W : WX) (D : Ends) (Φ : Fo) (H : Hp) : SO → Prop
  | .nx ρ h => ∀ Φ' H' σ', Ext Φ H Φ' H' → Hr G Φ' H' h → Ros G Φ' H' ρ σ' → D.nx σ' H'
  | .rt v h => ∀ Φ' H' u, Ext Φ H Φ' H' → Hr G Φ' H' h → R G Φ' H' v u → D.rt u H'
  | .bk ρ h => ∀ Φ' H' σ', Ext Φ H Φ' H' → Hr G Φ' H' h → Ros G Φ' H' ρ σ' → D.bk σ' H'
  | .ct ρ h => ∀ Φ' H' σ', Ext Φ H Φ' H' → Hr G Φ' H' h → Ros G Φ' H' ρ σ' → D.ct σ' H'
  | .ex c fs xs ρ h => ∀ Φ' H' C d σ', Ext Φ H Φ' H' → Hr G Φ' H' h → Ros G Φ' H' ρ σ' → G.mg c = some (.ref C) → XR G Φ' H' d fs xs → W (.ref C) d σ' H'
  | .bad => False
/-- what a statement that means m asks -/
def tsm (G : Gr) (W : WX) (m : SM) : TS := fun D σ H => ∃ ρ h Φ, Hr G Φ H h ∧ Ros G Φ H ρ σ ∧ okS G W D Φ H (m ρ h)
/-- an expression's outcome goes on as a statement -/
def Out.st {α : Type} (o : Out α) (ρ : Ro) (k : α → PH → SO) : SO := match o with
  | .ok a h => k a h
  | .ex c fs xs h => .ex c fs xs ρ h
  | .bad => .bad
section
variable {G : Gr} {W : WX} {D D' : Ends} {Φ Φ' : Fo} {H H' : Hp} {σ : Sl} {ρ : Ro} {h : PH}
theorem okS.start {o : SO} (e : Ext Φ H Φ' H') (q : okS G W D Φ H o) : okS G W D Φ' H' o := by
  cases o with
  | nx ρ h => exact fun Φ2 H2 σ2 e2 r s => q Φ2 H2 σ2 (e.trans e2) r s
  | rt v h => exact fun Φ2 H2 u e2 r s => q Φ2 H2 u (e.trans e2) r s
  | bk ρ h => exact fun Φ2 H2 σ2 e2 r s => q Φ2 H2 σ2 (e.trans e2) r s
  | ct ρ h => exact fun Φ2 H2 σ2 e2 r s => q Φ2 H2 σ2 (e.trans e2) r s
  | ex c fs xs ρ h => exact fun Φ2 H2 C d σ2 e2 r s m x => q Φ2 H2 C d σ2 (e.trans e2) r s m x
  | bad => exact q
theorem okS.st {α β : Type} {rel : Rel α β} {Q : β → Hp → Prop} {o : Out α} {k : α → PH → SO} (rs : Ros G Φ H ρ σ) (q : okS G W D Φ H (o.st ρ k))
    (s : ∀ a h' Φ' H' b, Ext Φ H Φ' H' → Hr G Φ' H' h' → rel Φ' H' a b → okS G W D Φ' H' (k a h') → Q b H') : okO rel G W Q σ Φ H o := by
  cases o with
  | ok a h' => exact fun Φ2 H2 b e r x => s a h' Φ2 H2 b e r x (okS.start e q)
  | ex c fs xs h' => exact fun Φ2 H2 C d e r m x => q Φ2 H2 C d σ e r (rs.ext e) m x
  | bad => exact q
end
theorem PS_imp {X : Cx} {e : Stmt} {t t' : TS} (h : PS X e t) (i : ∀ D σ H, t' D σ H → t D σ H) : PS X e t' := ⟨fun pins s σ H D I q => h.run pins s σ H D I (i _ _ _ q)⟩
theorem PSs_imp {X : Cx} {e : List Stmt} {t t' : TS} (h : PSs X e t) (i : ∀ D σ H, t' D σ H → t D σ H) : PSs X e t' := ⟨fun pins s σ H D I q => h.run pins s σ H D I (i _ _ _ q)⟩

/-! ### targets -/
inductive Tg where
  | nm (i : Nat) | tp (ts : List Tg)
mutual
def asg : Tg → PV → Ro → Option Ro
  | .nm i, p, ρ => some (ρ.set i (some p))
  | .tp ts, p, ρ => match asT p with
    | some ps => asgs ts ps ρ
    | none => none
def asgs : List Tg → List PV → Ro → Option Ro
  | [], [], ρ => some ρ
  | t :: ts, p :: ps, ρ => match asg t p ρ with
    | some ρ1 => asgs ts ps ρ1
    | none => none
  | _, _, _ => none
end
mutual
def gTg (K : PySem.W.Frag) : Tg → TG
  | .nm i => gName i
  | .tp ts => gTup K ts.length (gTgs K ts)
def gTgs (K : PySem.W.Frag) : List Tg → TGs
  | [] => gNil
  | t :: ts => gCons (gTg K t) (gTgs K ts)
end
mutual
def slots : Tg → List Nat
  | .nm i => [i]
  | .tp ts => slotss ts
def slotss : List Tg → List Nat
  | [] => []
  | t :: ts => slots t ++ slotss ts
end
theorem wipe_set {σ : Sl} {i : Nat} {x : Option V} : ∀ {vs : List Nat}, i ∈ vs → wipe (σ.set i x) vs = wipe σ vs
  | v :: vs, m => by
    unfold wipe
    by_cases h : i ∈ vs
    · rw [wipe_set h]
    · have e : i = v := (List.mem_cons.mp m).resolve_right h
      subst e
      have gen : ∀ (ws : List Nat) (τ : Sl), (wipe (τ.set i x) ws).set i none = (wipe τ ws).set i none := by
        intro ws
        induction ws with
        | nil => intro τ; unfold wipe; rw [List.set_set]
        | cons w ws ih =>
          intro τ
          unfold wipe
          by_cases hw : w = i
          · subst hw; rw [List.set_set, List.set_set]; exact ih τ
          · rw [List.set_comm _ _ hw, ih τ, List.set_comm _ _ hw]
      exact gen vs σ
theorem Rs.length_of {G : Gr} {Φ : Fo} {H : Hp} {ps : List PV} {vs : List V} (r : Rs G Φ H ps vs) : vs.length = ps.length := r.length.symm
theorem asgs_len : ∀ {ts : List Tg} {ps : List PV} {ρ ρ' : Ro}, asgs ts ps ρ = some ρ' → ps.length = ts.length
  | [], [], _, _, _ => rfl
  | t :: ts, p :: ps, ρ, ρ', e => by
    unfold asgs at e
    split at e
    · rw [List.length_cons, List.length_cons, asgs_len e]
    · cases e
  | [], _ :: _, _, _, e => by simp [asgs] at e
  | _ :: _, [], _, _, e => by simp [asgs] at e
section
variable {G : Gr} {Φ : Fo} {H : Hp} {Q : Sl → Hp → Prop}
/-- the same but for these slots -/
def But (vs : List Nat) (σ σ' : Sl) : Prop := ∀ ws : List Nat, (∀ i ∈ vs, i ∈ ws) → wipe σ' ws = wipe σ ws
mutual
theorem asg_ok : ∀ {t : Tg} {p : PV} {v : V} {ρ ρ' : Ro} {σ : Sl} {Q : Sl → Hp → Prop}, asg t p ρ = some ρ' → R G Φ H p v → Ros G Φ H ρ σ → (∀ σ', Ros G Φ H ρ' σ' → But (slots t) σ σ' → Q σ' H) → gTg G.K t v σ H Q
  | .nm i, p, v, ρ, ρ', σ, Q, e, rp, rs, q => by
    cases e
    exact q _ (rs.set i rp) fun ws hw => wipe_set (hw i List.mem_cons_self)
  | .tp ts, p, v, ρ, ρ', σ, Q, e, rp, rs, q => by
    unfold asg at e
    split at e
    · rename_i ps ep
      obtain ⟨a, vs, h1, h2, h3⟩ := asT_ok rp ep
      refine ⟨a, vs, h1, h2, by rw [← h3.length]; exact asgs_len e, ?_⟩
      exact asgs_ok e h3 rs q
    · cases e
theorem asgs_ok : ∀ {ts : List Tg} {ps : List PV} {vs : List V} {ρ ρ' : Ro} {σ : Sl} {Q : Sl → Hp → Prop}, asgs ts ps ρ = some ρ' → Rs G Φ H ps vs → Ros G Φ H ρ σ → (∀ σ', Ros G Φ H ρ' σ' → But (slotss ts) σ σ' → Q σ' H) → gTgs G.K ts vs σ H Q
  | [], [], vs, ρ, ρ', σ, Q, e, rp, rs, q => by
    simp [asgs] at e
    subst e
    exact ⟨rp, q σ rs fun _ _ => rfl⟩
  | t :: ts, p :: ps, vs, ρ, ρ', σ, Q, e, rp, rs, q => by
    unfold asgs at e
    split at e
    · rename_i ρ1 e1
      obtain ⟨v, vr, rfl, h2, h3⟩ := rp
      refine ⟨v, vr, rfl, asg_ok e1 h2 rs fun σ1 rs1 b1 => asgs_ok e h3 rs1 fun σ2 rs2 b2 => q σ2 rs2 fun ws hw => ?_⟩
      rw [b2 ws (fun i hi => hw i (List.mem_append_right _ hi)), b1 ws (fun i hi => hw i (List.mem_append_left _ hi))]
    · cases e
  | [], _ :: _, _, _, _, _, _, e, _, _, _ => by simp [asgs] at e
  | _ :: _, [], _, _, _, _, _, e, _, _, _ => by simp [asgs] at e
end
end

/-! ### statements -/
def mPass : SM := fun ρ h => .nx ρ h
def mSeq (a b : SM) : SM := fun ρ h => match a ρ h with
  | .nx ρ1 h1 => b ρ1 h1
  | r => r
def mAsg (t : Tg) (e : EM) : SM := fun ρ h => (e ρ h).st ρ fun p h1 => match asg t p ρ with
  | some ρ1 => .nx ρ1 h1
  | none => .bad
def mIfS (t : TMm) (a b : SM) : SM := fun ρ h => (t ρ h).st ρ fun k h1 => if k then a ρ h1 else b ρ h1
def mRet (e : EM) : SM := fun ρ h => (e ρ h).st ρ fun p h1 => .rt p h1
def mRetN : SM := fun _ h => .rt .non h
def mExpr (e : EM) : SM := fun ρ h => (e ρ h).st ρ fun _ h1 => .nx ρ h1
def mBreak : SM := fun ρ h => .bk ρ h
def mCont : SM := fun ρ h => .ct ρ h
section
variable {X : Cx} {W : WX} {pos : Pos} {e : Expr} {me : EM} {st : Stmt} {rest : List Stmt} {ma mb : SM}
theorem ms_pass : PS X (.Pass pos) (tsm (gr X) W mPass) := PS_imp ps_pass fun D σ H ⟨ρ, h, Φ, r, rs, q⟩ => q Φ H σ .refl r rs
theorem ms_break : PS X (.Break pos) (tsm (gr X) W mBreak) := PS_imp ps_break fun D σ H ⟨ρ, h, Φ, r, rs, q⟩ => q Φ H σ .refl r rs
theorem ms_cont : PS X (.Continue pos) (tsm (gr X) W mCont) := PS_imp ps_continue fun D σ H ⟨ρ, h, Φ, r, rs, q⟩ => q Φ H σ .refl r rs
theorem ms_nil : PSs X [] (tsm (gr X) W mPass) := PSs_imp pss_nil fun D σ H ⟨ρ, h, Φ, r, rs, q⟩ => q Φ H σ .refl r rs
theorem ms_one (a : PS X st (tsm (gr X) W ma)) : PSs X [st] (tsm (gr X) W ma) := pss_one a
theorem ms_cons (a : PS X st (tsm (gr X) W ma)) (b : PSs X rest (tsm (gr X) W mb)) : PSs X (st :: rest) (tsm (gr X) W (mSeq ma mb)) := PSs_imp (pss_cons a b) fun D σ H ⟨ρ, h, Φ, r, rs, q⟩ => by
  refine ⟨ρ, h, Φ, r, rs, ?_⟩
  unfold mSeq at q
  cases z : ma ρ h with
  | nx ρ1 h1 => rw [z] at q; exact fun Φ2 H2 σ2 e2 r2 s2 => ⟨ρ1, h1, Φ2, r2, s2, okS.start e2 q⟩
  | rt v h1 => rw [z] at q; exact q
  | bk ρ1 h1 => rw [z] at q; exact q
  | ct ρ1 h1 => rw [z] at q; exact q
  | ex c fs xs ρ1 h1 => rw [z] at q; exact q
  | bad => rw [z] at q; exact q
theorem ms_expr (he : PE X e (tmE (gr X) W me)) (hs : swapsWith e none pos.line X.env = pure false := by rfl) : PS X (.Expr e pos) (tsm (gr X) W (mExpr me)) := PS_imp (ps_expr he hs) fun D σ H ⟨ρ, h, Φ, r, rs, q⟩ =>
  ⟨ρ, h, Φ, r, rs, okS.st rs q fun p h1 Φ1 H1 x e1 r1 rp q1 => q1 Φ1 H1 σ .refl r1 (rs.ext e1)⟩
theorem ms_ret (he : PE X e (tmE (gr X) W me)) : PS X (.Return (some e) pos) (tsm (gr X) W (mRet me)) := PS_imp (ps_ret he) fun D σ H ⟨ρ, h, Φ, r, rs, q⟩ =>
  ⟨ρ, h, Φ, r, rs, okS.st rs q fun p h1 Φ1 H1 x e1 r1 rp q1 => q1 Φ1 H1 x .refl r1 rp⟩
theorem ms_retN : PS X (.Return none pos) (tsm (gr X) W mRetN) := PS_imp ps_retN fun D σ H ⟨ρ, h, Φ, r, rs, q⟩ => q Φ H .non .refl r rfl
theorem ms_if {c : Expr} {a b : List Stmt} {mt : TMm} (hc : PT X c (tmT (gr X) W mt)) (ha : PSs X a (tsm (gr X) W ma)) (hb : PSs X b (tsm (gr X) W mb)) : PS X (.If c a b pos) (tsm (gr X) W (mIfS mt ma mb)) :=
  PS_imp (ps_if hc ha hb) fun D σ H ⟨ρ, h, Φ, r, rs, q⟩ => ⟨ρ, h, Φ, r, rs, okS.st rs q fun k h1 Φ1 H1 x e1 r1 rp q1 => by
    have rp' : k = x := rp
    subst rp'
    cases k with
    | true => rw [if_pos rfl]; exact ⟨ρ, h1, Φ1, r1, rs.ext e1, q1⟩
    | false => rw [if_neg Bool.false_ne_true]; exact ⟨ρ, h1, Φ1, r1, rs.ext e1, q1⟩⟩
theorem asgn_ok {te : TE} {t : Tg} (i : ∀ σ H Q, tmE (gr X) W me σ H Q → te σ H Q) (D : Ends) (σ : Sl) (H : Hp) (q : tsm (gr X) W (mAsg t me) D σ H) : te σ H (fun x H1 => gTg X.K t x σ H1 D.nx) := by
  obtain ⟨ρ, h, Φ, r, rs, q⟩ := q
  refine i _ _ _ ⟨ρ, h, Φ, r, rs, okS.st rs q fun p h1 Φ1 H1 x e1 r1 rp q1 => ?_⟩
  split at q1
  · rename_i ρ1 e2
    exact asg_ok (G := gr X) e2 rp (rs.ext e1) fun σ' rs' _ => q1 Φ1 H1 σ' .refl r1 rs'
  · exact q1.elim
/-- target = e, the target a name or a tuple of names -/
theorem ms_asg {tg : Expr} {t : Tg} {g : TG} (he : PE X e (tmE (gr X) W me)) (hg : PG X tg g) (eg : g = gTg X.K t := by rfl) (hs : swapsWithSole [tg] e pos.line X.env = pure false := by rfl) (hw : swappedStores [tg] e X.env = pure none := by rfl)
    (h1 : (assignEach [tg] X.env).map (·.2) = [assign tg X.env] := by rfl) : PS X (.Assign [tg] e pos) (tsm (gr X) W (mAsg t me)) := by
  subst eg
  exact PS_imp (ps_asg he hg hs hw h1) fun D σ H q => asgn_ok (fun _ _ _ q => q) D σ H q
/-- x = e -/
theorem ms_set (i : Nat) {x : Str} {px : Pos} (he : PE X e (tmE (gr X) W me)) (nd : X.N.Nodup) (hi : X.N[i]? = some x := by rfl) (hx : Loc X.env.scope x := by first | exact Or.inl rfl | exact Or.inr rfl)
    (hf : X.fn x = true ∨ X.env.scope.names.lookup x = some .local := by first | exact .inl rfl | exact .inr rfl) (hs : swapsWithSole [.Name x px] e pos.line X.env = pure false := by rfl) (hw : swappedStores [.Name x px] e X.env = pure none := by rfl) :
    PS X (.Assign [.Name x px] e pos) (tsm (gr X) W (mAsg (.nm i) me)) := ms_asg (t := .nm i) he (pg_name nd hi hx hf) rfl hs hw rfl
end

/-! ### what is walked -/
structure Its where
  items : List PV
  chk : PH → Bool
/-- J walks these items, wherever the source stands -/
def rIt (G : Gr) : Rel Its It := fun Φ H s J => ∀ Φ' H' h', Ext Φ H Φ' H' → Hr G Φ' H' h' → s.chk h' = true → ∀ i,
  (∀ p, s.items[i]? = some p → J.go i H' ∧ ∀ x H'', J.yld i H' x H'' → ∃ Φ'', Ext Φ' H' Φ'' H'' ∧ Hr G Φ'' H'' h' ∧ R G Φ'' H'' p x) ∧ (s.items.length ≤ i → J.stop i H')
abbrev IMm := Ro → PH → Out Its
abbrev tmI (G : Gr) (W : WX) (m : IMm) : TI := tm (rIt G) G W m
def forL (chk : PH → Bool) (t : Tg) (body : SM) : List PV → Ro → PH → SO
  | [], ρ, h => if chk h then .nx ρ h else .bad
  | p :: ps, ρ, h => if chk h then (match asg t p ρ with
    | none => .bad
    | some ρ1 => match body ρ1 h with
      | .nx ρ2 h2 => forL chk t body ps ρ2 h2
      | .ct ρ2 h2 => forL chk t body ps ρ2 h2
      | .bk ρ2 h2 => .nx ρ2 h2
      | r => r) else .bad
def mFor (mi : IMm) (t : Tg) (body : SM) : SM := fun ρ h => (mi ρ h).st ρ fun s h1 => forL s.chk t body s.items ρ h1
theorem PI_imp {X : Cx} {tg e : Expr} {t t' : TI} (h : PI X tg e t) (i : ∀ σ H Q, t' σ H Q → t σ H Q) : PI X tg e t' := ⟨fun pins s σ H Q I q => h.run pins s σ H Q I (i _ _ _ q)⟩
section
variable {X : Cx} {W : WX} {pos : Pos}
theorem for_ok {G : Gr} {mi : IMm} {t : Tg} {mb : SM} {D : Ends} {σ : Sl} {H : Hp} (q : tsm G W (mFor mi t mb) D σ H) : tFor (tmI G W mi) (gTg G.K t) (tsm G W mb) D σ H := by
  obtain ⟨ρ, h, Φ, r, rs, q⟩ := q
  refine ⟨ρ, h, Φ, r, rs, okS.st rs q fun s h1 Φ1 H1 J e1 r1 rj q1 => ?_⟩
  refine ⟨fun i m σ H => ∃ ρ h Φ', m = s.items.length - i ∧ i ≤ s.items.length ∧ Ext Φ1 H1 Φ' H ∧ Hr G Φ' H h ∧ Ros G Φ' H ρ σ ∧ okS G W D Φ' H (forL s.chk t mb (s.items.drop i) ρ h),
    ⟨s.items.length, ρ, h1, Φ1, rfl, Nat.zero_le _, .refl, r1, rs.ext e1, q1⟩, ?_⟩
  rintro i m σ2 H2 ⟨ρ2, h2, Φ2, rfl, hi, e2, r2, rs2, q2⟩
  by_cases hlt : i < s.items.length
  · rw [List.drop_eq_getElem_cons hlt] at q2
    unfold forL at q2
    split at q2
    · rename_i hc
      split at q2
      · exact q2.elim
      · rename_i ρ3 e3
        obtain ⟨hgo, hy⟩ := (rj Φ2 H2 h2 e2 r2 hc i).1 _ (List.getElem?_eq_getElem hlt)
        refine .inr ⟨hgo, fun σ' H' => ∃ ρ h Φ', Ext Φ1 H1 Φ' H' ∧ Hr G Φ' H' h ∧ Ros G Φ' H' ρ σ' ∧ okS G W D Φ' H' (forL s.chk t mb (s.items.drop (i + 1)) ρ h),
          fun σ' H' ⟨ρ', h', Φ', a, b, c, d⟩ => ⟨s.items.length - (i + 1), by omega, ρ', h', Φ', rfl, hlt, a, b, c, d⟩, fun x H'' yx => ?_⟩
        obtain ⟨Φ4, e4, r4, rx⟩ := hy x H'' yx
        refine asg_ok e3 rx (rs2.ext e4) fun σ5 rs5 _ => ⟨ρ3, h2, Φ4, r4, rs5, ?_⟩
        have q3 := okS.start e4 q2
        cases z : mb ρ3 h2 with
        | nx ρ6 h6 => rw [z] at q3; exact fun Φ6 H6 σ6 e6 r6 s6 => ⟨ρ6, h6, Φ6, (e2.trans e4).trans e6, r6, s6, okS.start e6 q3⟩
        | ct ρ6 h6 => rw [z] at q3; exact fun Φ6 H6 σ6 e6 r6 s6 => ⟨ρ6, h6, Φ6, (e2.trans e4).trans e6, r6, s6, okS.start e6 q3⟩
        | bk ρ6 h6 => rw [z] at q3; exact q3
        | rt v h6 => rw [z] at q3; exact q3
        | ex c fs xs ρ6 h6 => rw [z] at q3; exact q3
        | bad => rw [z] at q3; exact q3
    · exact q2.elim
  · have hi' : i = s.items.length := by omega
    subst hi'
    rw [List.drop_length] at q2
    unfold forL at q2
    split at q2
    · rename_i hc
      exact .inl ⟨(rj Φ2 H2 h2 e2 r2 hc _).2 (Nat.le_refl _), q2 Φ2 H2 σ2 .refl r2 rs2⟩
    · exact q2.elim
theorem ms_for {iter tg : Expr} {body : List Stmt} {mi : IMm} {t : Tg} {g : TG} {mb : SM} (hp : PassesOwn (model X.prog X.w) X.A X.env X.xe) (hc : X.calm = true) (hi : PI X tg iter (tmI (gr X) W mi)) (hg : PG X tg g) (hb : PSs X body (tsm (gr X) W mb))
    (eg : g = gTg X.K t := by rfl) (hs : ∀ x, foldedSetIterable iter X.env x = pure x := by intro _; rfl) : PS X (.For tg iter body [] pos) (tsm (gr X) W (mFor mi t mb)) := by
  subst eg
  exact PS_imp (ps_for hp hc hi hg hb hs) fun D σ H q => for_ok q

/-! ### while -/
/-- n turns at most -/
def whileL (t : TMm) (body : SM) : Nat → Ro → PH → SO
  | 0, _, _ => .bad
  | n + 1, ρ, h => (t ρ h).st ρ fun k h1 => if k then (match body ρ h1 with
    | .nx ρ2 h2 => whileL t body n ρ2 h2
    | .ct ρ2 h2 => whileL t body n ρ2 h2
    | .bk ρ2 h2 => .nx ρ2 h2
    | r => r) else .nx ρ h1
/-- a bound for the turns, read off the state -/
def mWhile (f : Ro → PH → Nat) (t : TMm) (body : SM) : SM := fun ρ h => whileL t body (f ρ h) ρ h
theorem while_ok {G : Gr} {f : Ro → PH → Nat} {mt : TMm} {mb : SM} {D : Ends} {σ : Sl} {H : Hp} (q : tsm G W (mWhile f mt mb) D σ H) : tWhile (tmT G W mt) (tsm G W mb) D σ H := by
  obtain ⟨ρ, h, Φ, r, rs, q⟩ := q
  refine ⟨fun m σ H => ∃ ρ h Φ, Hr G Φ H h ∧ Ros G Φ H ρ σ ∧ okS G W D Φ H (whileL mt mb m ρ h), ⟨f ρ h, ρ, h, Φ, r, rs, q⟩, ?_⟩
  rintro m σ1 H1 ⟨ρ1, h1, Φ1, r1, rs1, q1⟩
  cases m with
  | zero => exact q1.elim
  | succ n =>
    unfold whileL at q1
    refine ⟨ρ1, h1, Φ1, r1, rs1, okS.st rs1 q1 fun k h2 Φ2 H2 x e2 r2 rk q2 => ?_⟩
    have rk' : k = x := rk
    subst rk'
    cases k with
    | false => rw [if_neg Bool.false_ne_true]; exact q2 Φ2 H2 σ1 .refl r2 (rs1.ext e2)
    | true =>
      rw [if_pos rfl]
      refine ⟨fun σ' H' => ∃ ρ h Φ, Hr G Φ H' h ∧ Ros G Φ H' ρ σ' ∧ okS G W D Φ H' (whileL mt mb n ρ h), fun σ' H' z => ⟨n, Nat.lt_succ_self n, z⟩, ρ1, h2, Φ2, r2, rs1.ext e2, ?_⟩
      rw [if_pos rfl] at q2
      cases z : mb ρ1 h2 with
      | nx ρ6 h6 => rw [z] at q2; exact fun Φ6 H6 σ6 e6 r6 s6 => ⟨ρ6, h6, Φ6, r6, s6, okS.start e6 q2⟩
      | ct ρ6 h6 => rw [z] at q2; exact fun Φ6 H6 σ6 e6 r6 s6 => ⟨ρ6, h6, Φ6, r6, s6, okS.start e6 q2⟩
      | bk ρ6 h6 => rw [z] at q2; exact q2
      | rt v h6 => rw [z] at q2; exact q2
      | ex c fs xs ρ6 h6 => rw [z] at q2; exact q2
      | bad => rw [z] at q2; exact q2
theorem ms_while (f : Ro → PH → Nat) {c : Expr} {body : List Stmt} {mt : TMm} {mb : SM} (hp : PassesOwn (model X.prog X.w) X.A X.env X.xe) (hc : PT X c (tmT (gr X) W mt)) (hb : PSs X body (tsm (gr X) W mb)) : PS X (.While c body [] pos) (tsm (gr X) W (mWhile f mt mb)) :=
  PS_imp (ps_while hp hc hb) fun D σ H q => while_ok q
end
end Ev
/-! Ev6: what a for walks, comprehensions. -/
namespace Ev
open PySem PySem.Spec PyProof.Rows L2

/-! ### a list, a tuple, a text -/
section
variable {X : Cx} {tg : Expr}
/-- whichever of the three it is -/
theorem pi_seq {e : Expr} {te : TE} (he : PE X e te) : PI X tg e (fun σ H R => te σ H fun x H1 =>
    (∃ a, x = .ref a ∧ (∃ xs, SqL X.K H1 a xs) ∧ R (Itl X.K a) H1) ∨ (∃ a, x = .ref a ∧ (∃ xs, SqT X.K H1 a xs) ∧ R (Itt X.K a) H1) ∨ ∃ z, x = .str z ∧ R (L2.Its z) H1) := by
  refine ⟨fun pins s σ H R I h => thn (he.run pins s σ H _ I h) fun v s1 ⟨x, H1, I1, r1, q1⟩ => ?_⟩
  have mine : ∀ b, b ∈ [s1.heap.objs.size] → FpOk X pins H1 b := fun b hb => by
    rw [List.mem_singleton.mp hb]
    exact I1.fpOk (Nat.le_refl _) (I1.hok.fresh (Nat.le_refl _))
  have gone : ∀ o : Obj, Inv X pins σ H1 { s1 with heap := s1.heap.push o, toks := s1.toks } := fun o => I1.kept fun _ _ e => Heap.get?_push_of_some _ e
  rcases q1 with ⟨a, rfl, ⟨xs, hq⟩, q⟩ | ⟨a, rfl, ⟨xs, hq⟩, q⟩ | ⟨z, rfl, q⟩
  · cases r1
    obtain ⟨its, _, p, _⟩ := I1.list hq
    exact wpAny_pyIter_list p.isList ⟨_, _, _, _, H1, rfl, gone _, turn_list a _, ⟨_, Heap.get?_push_size _ rfl, rfl, rfl⟩, mine, q⟩
  · cases r1
    obtain ⟨its, _, p, _⟩ := I1.tuple hq
    exact wpAny_pyIter_tuple (show s1.heap.IsTuple a its.toArray from p) ⟨_, _, _, _, H1, rfl, gone _, turn_tuple a _, ⟨_, Heap.get?_push_size _ rfl, rfl, rfl⟩, mine, q⟩
  · obtain ⟨t, rfl⟩ := r1
    cases ha : z.cps.all (· < 128) with
    | false => exact wpAny_pyIter_wide ha ⟨_, _, _, _, H1, rfl, gone _, turn_str _ z t "str_iterator" (.inr rfl), ⟨_, Heap.get?_push_size _ rfl, rfl, rfl⟩, mine, q⟩
    | true => exact wpAny_pyIter_ascii ha ⟨_, _, _, _, H1, rfl, gone _, turn_str _ z t "str_ascii_iterator" (.inl rfl), ⟨_, Heap.get?_push_size _ rfl, rfl, rfl⟩, mine, q⟩
end
noncomputable def chkRef (n : Nat) (xs : List PV) (h : PH) : Bool := @decide (h[n]? = some (.lst xs)) (Classical.propDecidable _)
noncomputable def itRef (n : Nat) (h : PH) : Out Its := match h[n]? with
  | some (.lst xs) => .ok ⟨xs, chkRef n xs⟩ h
  | _ => .bad
theorem asL_ref {h : PH} {n : Nat} {xs : List PV} (e : h[n]? = some (.lst xs)) : asL h (.ref n) = some xs := by simp [asL, e]
noncomputable def itSeq (p : PV) (h : PH) : Out Its := match p with
  | .tup xs => .ok ⟨xs, fun _ => true⟩ h
  | .lst xs => .ok ⟨xs, fun _ => true⟩ h
  | .rol xs => .ok ⟨xs, fun _ => true⟩ h
  | .ref n => itRef n h
  | .str z => .ok ⟨z.cps.toList.map fun c => .str ⟨#[c]⟩, fun _ => true⟩ h
  | _ => .bad
noncomputable def mIt (a : EM) : IMm := fun ρ h => (a ρ h).bind fun p h1 => itSeq p h1
section
variable {G : Gr} {Φ Φ' : Fo} {H H' : Hp} {h : PH}
theorem rIt_list {a : Addr} {s : Ev.Its} (hs : ∀ Φ' H' h', Ext Φ H Φ' H' → Hr G Φ' H' h' → s.chk h' = true → ∃ vs, SqL G.K H' a vs ∧ Rs G Φ' H' s.items vs) (uniq : ∀ H' xs ys, SqL G.K H' a xs → SqL G.K H' a ys → True) :
    rIt G Φ H s (Itl G.K a) := fun Φ' H' h' e r c i => by
  obtain ⟨vs, h1, h2⟩ := hs Φ' H' h' e r c
  refine ⟨fun p hp => ?_, fun hi => ⟨vs, h1, by rw [← h2.length]; exact hi⟩⟩
  obtain ⟨v, h3, h4⟩ := h2.get hp
  refine ⟨⟨vs, v, h1, h3⟩, fun x H'' y => ?_⟩
  obtain ⟨rfl, y⟩ := y
  have e2 := y vs h1
  rw [h3] at e2
  cases e2
  exact ⟨Φ', .refl, r, h4⟩
theorem rIt_tup {a : Addr} {s : Ev.Its} (hs : ∀ Φ' H' h', Ext Φ H Φ' H' → Hr G Φ' H' h' → s.chk h' = true → ∃ vs, SqT G.K H' a vs ∧ Rs G Φ' H' s.items vs) :
    rIt G Φ H s (Itt G.K a) := fun Φ' H' h' e r c i => by
  obtain ⟨vs, h1, h2⟩ := hs Φ' H' h' e r c
  refine ⟨fun p hp => ?_, fun hi => ⟨vs, h1, by rw [← h2.length]; exact hi⟩⟩
  obtain ⟨v, h3, h4⟩ := h2.get hp
  refine ⟨⟨vs, v, h1, h3⟩, fun x H'' y => ?_⟩
  obtain ⟨rfl, y⟩ := y
  have e2 := y vs h1
  rw [h3] at e2
  cases e2
  exact ⟨Φ', .refl, r, h4⟩
theorem rIt_str {z : Str} : rIt G Φ H ⟨z.cps.toList.map fun c => .str ⟨#[c]⟩, fun _ => true⟩ (L2.Its z) := fun Φ' H' h' e r c i => by
  refine ⟨fun p hp => ?_, fun hi => ?_⟩
  · rw [List.getElem?_map] at hp
    cases q : z.cps.toList[i]? with
    | none => rw [q] at hp; cases hp
    | some k =>
      rw [q] at hp
      cases hp
      have q' : z.cps[i]? = some k := by rw [← Array.getElem?_toList]; exact q
      refine ⟨?_, fun x H'' y => ?_⟩
      · obtain ⟨hl, _⟩ := Array.getElem?_eq_some_iff.mp q'
        exact hl
      · obtain ⟨rfl, k', hk, rfl⟩ := y
        rw [q'] at hk
        cases hk
        exact ⟨Φ', .refl, r, rfl⟩
  · show z.cps.size ≤ i
    have : (z.cps.toList.map fun c => PV.str ⟨#[c]⟩).length ≤ i := hi
    simpa using this
theorem rIt_range {lo : Int} {n : Nat} : rIt G Φ H ⟨(List.range n).map fun k => .int (lo + (k : Nat)), fun _ => true⟩ (Itr lo n) := fun Φ' H' h' e r c i => by
  refine ⟨fun p hp => ?_, fun hi => ?_⟩
  · rw [List.getElem?_map] at hp
    by_cases hi : i < n
    · rw [List.getElem?_range hi] at hp
      cases hp
      refine ⟨hi, fun x H'' y => ?_⟩
      obtain ⟨rfl, rfl⟩ := y
      exact ⟨Φ', .refl, r, rfl⟩
    · rw [List.getElem?_eq_none (by rw [List.length_range]; omega)] at hp
      cases hp
  · have : ((List.range n).map fun k : Nat => PV.int (lo + k)).length ≤ i := hi
    show n ≤ i
    simpa using this
end
section
variable {X : Cx} {tg : Expr} {W : WX} {pos p : Pos} {e a b : Expr} {me ma mb : EM}
theorem mi_seq (he : PE X e (tmE (gr X) W me)) : PI X tg e (tmI (gr X) W (mIt me)) := PI_imp (pi_seq he) fun σ H R ⟨ρ, h, Φ, r, rs, q⟩ =>
  ⟨ρ, h, Φ, r, rs, okO.bind q fun p h1 Φ1 H1 x e1 r1 rp q1 => by
    cases p with
    | tup xs =>
      obtain ⟨a, vs, rfl, h2, h3⟩ := asT_ok rp (xs := xs) rfl
      refine .inr (.inl ⟨a, rfl, ⟨vs, h2⟩, q1 Φ1 H1 _ .refl r1 (rIt_tup fun Φ' H' h' e r c => ?_)⟩)
      obtain ⟨b, us, g1, g2, g3⟩ := asT_ok (rp.ext e) (xs := xs) rfl
      cases g1
      exact ⟨us, g2, g3⟩
    | lst xs =>
      obtain ⟨a, vs, rfl, h2, h3⟩ := asL_ok r1 rp (xs := xs) rfl
      refine .inl ⟨a, rfl, ⟨vs, h2⟩, q1 Φ1 H1 _ .refl r1 (rIt_list (fun Φ' H' h' e r c => ?_) fun _ _ _ _ _ => trivial)⟩
      obtain ⟨b, us, g1, g2, g3⟩ := asL_ok r (rp.ext e) (xs := xs) rfl
      cases g1
      exact ⟨us, g2, g3⟩
    | rol xs =>
      obtain ⟨a, vs, rfl, h2, h3⟩ := asL_ok r1 rp (xs := xs) rfl
      refine .inl ⟨a, rfl, ⟨vs, h2⟩, q1 Φ1 H1 _ .refl r1 (rIt_list (fun Φ' H' h' e r c => ?_) fun _ _ _ _ _ => trivial)⟩
      obtain ⟨b, us, g1, g2, g3⟩ := asL_ok r (rp.ext e) (xs := xs) rfl
      cases g1
      exact ⟨us, g2, g3⟩
    | ref n =>
      have q1 : okO (rIt (gr X)) (gr X) W R σ Φ1 H1 (itRef n h1) := q1
      unfold itRef at q1
      split at q1
      · rename_i xs ex
        obtain ⟨a, vs, rfl, h2, h3⟩ := asL_ok r1 rp (asL_ref ex)
        refine .inl ⟨a, rfl, ⟨vs, h2⟩, q1 Φ1 H1 _ .refl r1 (rIt_list (fun Φ' H' h' e r c => ?_) fun _ _ _ _ _ => trivial)⟩
        have c' : h'[n]? = some (.lst xs) := @of_decide_eq_true _ (Classical.propDecidable _) c
        obtain ⟨b, us, g1, g2, g3⟩ := asL_ok r (rp.ext e) (asL_ref c')
        cases g1
        exact ⟨us, g2, g3⟩
      · exact q1.elim
    | str z => exact .inr (.inr ⟨z, rp, q1 Φ1 H1 _ .refl r1 rIt_str⟩)
    | _ => exact q1.elim⟩
def itRange1 : List PV → PH → Out Its
  | [.int j], h => if -(2 ^ 62) ≤ j ∧ j < 2 ^ 62 then .ok ⟨(List.range j.toNat).map fun k => .int (0 + (k : Nat)), fun _ => true⟩ h else .bad
  | _, _ => .bad
def itRange2 : List PV → PH → Out Its
  | [.int i, .int j], h => if -(2 ^ 62) ≤ i ∧ i < 2 ^ 62 ∧ -(2 ^ 62) ≤ j ∧ j < 2 ^ 62 then .ok ⟨(List.range (j - i).toNat).map fun k => .int (i + (k : Nat)), fun _ => true⟩ h else .bad
  | _, _ => .bad
def mItA (f : List PV → PH → Out Its) (as : AM) : IMm := fun ρ h => (as ρ h).bind fun ps h1 => f ps h1
variable {mr : AM}
theorem mi_range1 (hm : X.mg "range" = none) (ha : PA X [a] (tmA (gr X) W mr)) (hg : Gl X "range" := by rfl) (hs : starEach [a] X.env = [(false, eval a X.env)] := by rfl) : PI X tg (.Call (.Name "range" p) [a] [] pos) (tmI (gr X) W (mItA itRange1 mr)) :=
  PI_imp (pi_range1 hg hm ha hs) fun σ H R ⟨ρ, h, Φ, r, rs, q⟩ => ⟨ρ, h, Φ, r, rs, okO.bind q fun ps h1 Φ1 H1 xs e1 r1 rp q1 => by
    unfold itRange1 at q1
    split at q1
    · rename_i j
      obtain ⟨v, rfl, rv⟩ := rp.one
      split at q1
      · rename_i hc
        exact ⟨j, by rw [show v = .int j from rv], hc.1, hc.2, q1 Φ1 H1 _ .refl r1 rIt_range⟩
      · exact q1.elim
    · exact q1.elim⟩
theorem mi_range2 (hm : X.mg "range" = none) (ha : PA X [a, b] (tmA (gr X) W mr)) (hg : Gl X "range" := by rfl) (hs : starEach [a, b] X.env = [(false, eval a X.env), (false, eval b X.env)] := by rfl) (hs2 : starEach [b] X.env = [(false, eval b X.env)] := by rfl) :
    PI X tg (.Call (.Name "range" p) [a, b] [] pos) (tmI (gr X) W (mItA itRange2 mr)) :=
  PI_imp (pi_range2 hg hm ha hs hs2) fun σ H R ⟨ρ, h, Φ, r, rs, q⟩ => ⟨ρ, h, Φ, r, rs, okO.bind q fun ps h1 Φ1 H1 xs e1 r1 rp q1 => by
    unfold itRange2 at q1
    split at q1
    · rename_i i j
      obtain ⟨v, u, rfl, rv, ru⟩ := rp.two
      split at q1
      · rename_i hc
        exact ⟨i, j, by rw [show v = .int i from rv, show u = .int j from ru], hc, q1 Φ1 H1 _ .refl r1 rIt_range⟩
      · exact q1.elim
    · exact q1.elim⟩
/-- enumerate(list) -/
def enumFrom : Nat → List PV → List PV
  | _, [] => []
  | n, p :: ps => .tup [.int (n : Nat), p] :: enumFrom (n + 1) ps
theorem enum_get : ∀ {ps : List PV} {n i : Nat} {q : PV}, (enumFrom n ps)[i]? = some q → ∃ p, ps[i]? = some p ∧ q = .tup [.int ((n + i : Nat) : Int), p]
  | [], _, _, _, e => by simp [enumFrom] at e
  | p :: ps, n, 0, q, e => by
    have e' : some (PV.tup [.int (n : Nat), p]) = some q := e
    cases e'
    exact ⟨p, rfl, rfl⟩
  | p :: ps, n, i + 1, q, e => by
    have e' : (enumFrom (n + 1) ps)[i]? = some q := e
    obtain ⟨p', h1, h2⟩ := enum_get e'
    exact ⟨p', h1, by rw [h2, Nat.add_right_comm]; rfl⟩
theorem enum_len : ∀ (ps : List PV) (n : Nat), (enumFrom n ps).length = ps.length
  | [], _ => rfl
  | p :: ps, n => by
    show (enumFrom (n + 1) ps).length + 1 = ps.length + 1
    rw [enum_len ps]
noncomputable def itEnum : List PV → PH → Out Its
  | [p], h => match asL h p with
    | some _ => (itSeq p h).bind fun s h1 => .ok ⟨enumFrom 0 s.items, s.chk⟩ h1
    | none => .bad
  | _, _ => .bad
/-- the source of a list's walk -/
theorem itSeq_list {G : Gr} {Φ : Fo} {H : Hp} {h : PH} {p : PV} {v : V} {xs : List PV} (r : Hr G Φ H h) (rp : R G Φ H p v) (ep : asL h p = some xs) : ∃ a vs s, v = .ref a ∧ SqL G.K H a vs ∧ itSeq p h = .ok s h ∧ s.items = xs ∧
    ∀ Φ' H' h', Ext Φ H Φ' H' → Hr G Φ' H' h' → s.chk h' = true → ∃ vs, SqL G.K H' a vs ∧ Rs G Φ' H' s.items vs := by
  obtain ⟨a, vs, h1, h2, h3⟩ := asL_ok r rp ep
  subst h1
  cases p with
  | lst ys =>
    cases ep
    refine ⟨a, vs, _, rfl, h2, rfl, rfl, fun Φ' H' h' e r' c => ?_⟩
    obtain ⟨b, us, g1, g2, g3⟩ := asL_ok r' (rp.ext e) rfl
    cases g1
    exact ⟨us, g2, g3⟩
  | rol ys =>
    cases ep
    refine ⟨a, vs, _, rfl, h2, rfl, rfl, fun Φ' H' h' e r' c => ?_⟩
    obtain ⟨b, us, g1, g2, g3⟩ := asL_ok r' (rp.ext e) rfl
    cases g1
    exact ⟨us, g2, g3⟩
  | ref n =>
    have ep' : (match h[n]? with
      | some (.lst xs) => some xs
      | _ => none) = some xs := ep
    cases q : h[n]? with
    | none => rw [q] at ep'; cases ep'
    | some o =>
      cases o with
      | lst ys =>
        rw [q] at ep'
        cases ep'
        refine ⟨a, vs, ⟨xs, chkRef n xs⟩, rfl, h2, ?_, rfl, fun Φ' H' h' e r' c => ?_⟩
        · show itRef n h = _
          unfold itRef
          rw [q]
        · have c' : h'[n]? = some (.lst xs) := @of_decide_eq_true _ (Classical.propDecidable _) c
          obtain ⟨b, us, g1, g2, g3⟩ := asL_ok r' (rp.ext e) (asL_ref c')
          cases g1
          exact ⟨us, g2, g3⟩
      | _ => rw [q] at ep'; cases ep'
  | _ => cases ep
theorem mi_enum {elts : List Expr} {kk : Nat} {tpos : Pos} (hm : X.mg "enumerate" = none) (ha : PA X [a] (tmA (gr X) W mr)) (hg : Gl X "enumerate" := by rfl) (hs : starEach [a] X.env = [(false, eval a X.env)] := by rfl) :
    PI X (.Tuple elts kk tpos) (.Call (.Name "enumerate" p) [a] [] pos) (tmI (gr X) W (mItA itEnum mr)) :=
  PI_imp (pi_enum hg hm ha hs) fun σ H R ⟨ρ, h, Φ, r, rs, q⟩ => ⟨ρ, h, Φ, r, rs, okO.bind q fun ps h1 Φ1 H1 xs e1 r1 rp q1 => by
    unfold itEnum at q1
    split at q1
    · rename_i p
      obtain ⟨v, rfl, rv⟩ := rp.one
      split at q1
      · rename_i ys ey
        obtain ⟨a, vs, s, rfl, h2, h3, h4, h5⟩ := itSeq_list r1 rv ey
        rw [h3] at q1
        refine ⟨a, vs, rfl, h2, q1 Φ1 H1 _ .refl r1 fun Φ' H' h' e r c i => ?_⟩
        obtain ⟨us, g1, g2⟩ := h5 Φ' H' h' e r c
        refine ⟨fun w hw => ?_, fun hi => ⟨us, g1, ?_⟩⟩
        · obtain ⟨z, k1, k2⟩ := enum_get hw
          obtain ⟨u, k3, k4⟩ := g2.get k1
          refine ⟨⟨us, u, g1, k3⟩, fun x H'' y => ?_⟩
          obtain ⟨T, u', rfl, nT, rfl, k5⟩ := y
          have k6 := k5 us g1
          rw [k3] at k6
          cases k6
          obtain ⟨a1, a2, a3⟩ := newT_ok r (xs := [.int (i : Nat), z]) (vs := [.int (i : Nat), u]) ⟨_, _, rfl, rfl, _, _, rfl, k4, rfl⟩ nT
          rw [Nat.zero_add] at k2
          rw [k2]
          exact ⟨Φ', a1, a2, a3⟩
        · have hi' : (enumFrom 0 s.items).length ≤ i := hi
          rw [enum_len, g2.length] at hi'
          exact hi'
      · exact q1.elim
    · exact q1.elim⟩
end

/-! ### comprehensions -/
def wipeR (ρ : Ro) : List Nat → Ro
  | [] => ρ
  | v :: vs => (wipeR ρ vs).set v none
theorem Ros.wipe {G : Gr} {Φ : Fo} {H : Hp} {ρ : Ro} {σ : Sl} (r : Ros G Φ H ρ σ) : ∀ vs : List Nat, Ros G Φ H (wipeR ρ vs) (wipe σ vs)
  | [] => r
  | v :: vs => by
    have ih := Ros.wipe r vs
    refine ⟨by unfold wipeR L2.wipe; rw [List.length_set, List.length_set]; exact ih.len, fun i p e => ?_⟩
    unfold wipeR at e
    unfold L2.wipe
    by_cases hv : v = i
    · subst hv
      by_cases hl : v < (wipeR ρ vs).length
      · rw [List.getElem?_set_self hl] at e; cases e
      · rw [List.getElem?_eq_none (by rw [List.length_set]; omega)] at e; cases e
    · rw [List.getElem?_set_ne hv] at e ⊢
      exact ih.at_ i p e
/-- nothing is raised out of a comprehension -/
abbrev W0 : WX := fun _ _ _ _ => False
def noEx {α : Type} : Out α → Out α
  | .ex _ _ _ _ => .bad
  | o => o
def compL (chk : PH → Bool) (t : Tg) (tt : TMm) (me : EM) (ρ : Ro) : List PV → List PV → PH → Out (List PV)
  | [], acc, h => if chk h then .ok acc h else .bad
  | p :: ps, acc, h => if chk h then (match asg t p ρ with
    | none => .bad
    | some ρ1 => (noEx (tt ρ1 h)).bind fun k h1 => if k then (noEx (me ρ1 h1)).bind fun v h2 => if acc.length < sizeLine then compL chk t tt me ρ ps (acc ++ [v]) h2 else .bad else compL chk t tt me ρ ps acc h1) else .bad
def mLc (b : Bool) (own : List Nat) (mi : IMm) (t : Tg) (tt : TMm) (me : EM) : EM := fun ρ h => (mi ρ h).bind fun s h1 => (compL s.chk t tt me (wipeR ρ own) s.items [] h1).bind fun acc h2 => .ok (newL b acc h2).1 (newL b acc h2).2
def tYes_ : TMm := fun _ h => .ok true h
theorem okO.noex {α β : Type} {rel : Rel α β} {G : Gr} {W : WX} {Q : β → Hp → Prop} {σ : Sl} {Φ : Fo} {H : Hp} {o : Out α} (q : okO rel G W Q σ Φ H (noEx o)) (W' : WX) (σ' : Sl) : okO rel G W' Q σ' Φ H o := by
  cases o with
  | ok a h => exact q
  | ex c fs xs h => exact q.elim
  | bad => exact q
section
variable {G : Gr} {Φ Φ' : Fo} {H H' : Hp} {h : PH}
/-- the comprehension's own list changes: nobody sees it -/
theorem Hr.hid {D : Addr} {o : HO} (r : Hr G Φ H h) (m : D ∈ Φ.ex) (ol : ∃ vs, o = .lst vs := by exact ⟨_, rfl⟩) : Hr G Φ (upd H D o) h ∧ Mv Φ H Φ (upd H D o) := by
  obtain ⟨ovs, rfl⟩ := ol
  have mv : Mv Φ H Φ (upd H D (.lst ovs)) := ⟨fun a u f e _ => ⟨f, by rw [upd_ne (show a ≠ D from fun z => f.2 (by rw [z]; exact m))]; exact e⟩, fun _ _ e => e⟩
  have nD := (r.exs D m).1
  refine ⟨⟨r.nd, r.len, fun a ha => ⟨(r.exs a ha).1, ?_⟩, fun n u e => ?_⟩, mv⟩
  · by_cases z : a = D
    · subst z; exact ⟨ovs, upd_same⟩
    · obtain ⟨u, e⟩ := (r.exs a ha).2
      exact ⟨u, by rw [upd_ne z]; exact e⟩
  · obtain ⟨a, h1, h2⟩ := r.ob n u e
    exact ⟨a, h1, h2.mv mv (upd_ne fun z => nD (z ▸ List.mem_of_getElem? h1))⟩
theorem okLc {mi : IMm} {t : Tg} {tt : TMm} {me : EM} {b : Bool} {own : List Nat} {W : WX} {σ : Sl} {Q : VK} (own_ok : ∀ i ∈ slots t, i ∈ own) (q : tmE G W (mLc b own mi t tt me) σ H Q) : tLc (tmI G W mi) (gTg G.K t) (tmT G W0 tt) (tmE G W0 me) own σ H Q := by
  obtain ⟨ρ, h, Φ, r, rs, q⟩ := q
  refine ⟨ρ, h, Φ, r, rs, okO.bind q fun s h1 Φ1 H1 J e1 r1 rj q1 D nD => ?_⟩
  have fD := r1.fre nD
  refine ⟨fun i m H2 => ∃ acc vs h2 Φ2, m = s.items.length - i ∧ i ≤ s.items.length ∧ Ext Φ1 H1 Φ2 H2 ∧ D ∈ Φ2.ex ∧ Hr G Φ2 H2 h2 ∧ H2 D = some (.lst vs) ∧ Rs G Φ2 H2 acc vs ∧
      okO (R G) G W Q σ Φ1 H1 ((compL s.chk t tt me (wipeR ρ own) (s.items.drop i) acc h2).bind fun acc h2 => .ok (newL b acc h2).1 (newL b acc h2).2),
    ⟨s.items.length, [], [], h1, ⟨Φ1.φ, D :: Φ1.ex⟩, rfl, Nat.zero_le _, ⟨fun a ha => List.mem_cons_of_mem _ ha, fun a ha n _ => ?_, List.prefix_rfl, fun a m k => absurd m k, fun a o _ e _ => ?_⟩, List.mem_cons_self, ?_, upd_same, rfl, q1⟩, ?_⟩
  · rcases List.mem_cons.mp ha with z | z
    · rw [z]; exact Vd.of nD
    · exact absurd z n
  · rw [upd_ne (ne_of_none e nD)]; exact e
  · have mv : Mv Φ1 H1 ⟨Φ1.φ, D :: Φ1.ex⟩ (upd H1 D (.lst [])) := by
      refine ⟨fun a u f e _ => ?_, fun _ _ e => e⟩
      have ne := ne_of_none e nD
      exact ⟨⟨f.1, fun z => (List.mem_cons.mp z).elim ne f.2⟩, by rw [upd_ne ne]; exact e⟩
    refine ⟨r1.nd, r1.len, fun a ha => ?_, fun n u e => ?_⟩
    · rcases List.mem_cons.mp ha with z | z
      · subst z; exact ⟨fD.1, _, upd_same⟩
      · obtain ⟨n, u, e⟩ := r1.exs a z
        exact ⟨n, u, by rw [upd_ne (ne_of_none e nD)]; exact e⟩
    · obtain ⟨a, h1, h2⟩ := r1.ob n u e
      exact ⟨a, h1, h2.mv mv (upd_ne fun z => fD.1 (z ▸ List.mem_of_getElem? h1))⟩
  rintro i m H2 ⟨acc, vs, h2, Φ2, rfl, hi, e2, mD, r2, hD, ra, q2⟩
  by_cases hlt : i < s.items.length
  · rw [List.drop_eq_getElem_cons hlt] at q2
    unfold compL at q2
    split at q2
    · rename_i hc
      split at q2
      · exact q2.elim
      · rename_i ρ3 e3
        obtain ⟨hgo, hy⟩ := (rj Φ2 H2 h2 e2 r2 hc i).1 _ (List.getElem?_eq_getElem hlt)
        refine .inr ⟨hgo, fun H' => ∃ acc vs h2 Φ2, Ext Φ1 H1 Φ2 H' ∧ D ∈ Φ2.ex ∧ Hr G Φ2 H' h2 ∧ H' D = some (.lst vs) ∧ Rs G Φ2 H' acc vs ∧
            okO (R G) G W Q σ Φ1 H1 ((compL s.chk t tt me (wipeR ρ own) (s.items.drop (i + 1)) acc h2).bind fun acc h2 => .ok (newL b acc h2).1 (newL b acc h2).2),
          fun H' ⟨acc', vs', h', Φ', a, b, c, d, e, f⟩ => ⟨s.items.length - (i + 1), by omega, acc', vs', h', Φ', rfl, hlt, a, b, c, d, e, f⟩, fun x H'' yx => ?_⟩
        obtain ⟨Φ4, e4, r4, rx⟩ := hy x H'' yx
        have rs4 : Ros G Φ4 H'' ρ σ := (rs.ext e1).ext (e2.trans e4)
        refine asg_ok e3 rx (rs4.wipe own) fun σ5 rs5 but => ⟨?_, ρ3, h2, Φ4, r4, rs5, ?_⟩
        · rw [but own own_ok]
          have idem : ∀ vs : List Nat, wipe (wipe σ vs) vs = wipe σ vs := by
            intro vs
            induction vs with
            | nil => rfl
            | cons v vs ih =>
              show ((wipe ((wipe σ vs).set v none) vs).set v none) = (wipe σ vs).set v none
              have gen : ∀ (ws : List Nat) (τ : Sl), (wipe (τ.set v none) ws).set v none = (wipe τ ws).set v none := by
                intro ws
                induction ws with
                | nil => intro τ; show (τ.set v none).set v none = τ.set v none; rw [List.set_set]
                | cons w ws ih2 =>
                  intro τ
                  show ((wipe (τ.set v none) ws).set w none).set v none = ((wipe τ ws).set w none).set v none
                  by_cases hw : w = v
                  · subst hw; rw [List.set_set, List.set_set]; exact ih2 τ
                  · rw [List.set_comm _ _ hw, ih2 τ, List.set_comm _ _ hw]
              rw [gen vs (wipe σ vs), ih]
          exact idem own
        · have D4 : H'' D = some (.lst vs) := e4.keep D _ (r2.exs D mD).1 hD fun _ z => nomatch z
          have m4 : D ∈ Φ4.ex := e4.exs D mD
          have base : ∀ {o : Out Bool} {k : Bool → PH → Out (List PV)}, okO (R G) G W Q σ Φ1 H1 (((noEx o).bind k).bind fun acc h2 => .ok (newL b acc h2).1 (newL b acc h2).2) →
              (∀ c h5 Φ5 H5, Ext Φ4 H'' Φ5 H5 → Hr G Φ5 H5 h5 → okO (R G) G W Q σ Φ1 H1 ((k c h5).bind fun acc h2 => .ok (newL b acc h2).1 (newL b acc h2).2) →
                (if c = true then tmE G W0 me σ5 H5 fun y H6 => ∃ acc, H6 D = some (.lst acc) ∧ acc.length < sizeLine ∧ (∃ acc2 vs h2 Φ2, Ext Φ1 H1 Φ2 (upd H6 D (.lst (acc ++ [y]))) ∧ D ∈ Φ2.ex ∧ Hr G Φ2 (upd H6 D (.lst (acc ++ [y]))) h2 ∧ (upd H6 D (.lst (acc ++ [y]))) D = some (.lst vs) ∧ Rs G Φ2 (upd H6 D (.lst (acc ++ [y]))) acc2 vs ∧
            okO (R G) G W Q σ Φ1 H1 ((compL s.chk t tt me (wipeR ρ own) (s.items.drop (i + 1)) acc2 h2).bind fun acc h2 => .ok (newL b acc h2).1 (newL b acc h2).2)) else
                  ∃ acc vs h2 Φ2, Ext Φ1 H1 Φ2 H5 ∧ D ∈ Φ2.ex ∧ Hr G Φ2 H5 h2 ∧ H5 D = some (.lst vs) ∧ Rs G Φ2 H5 acc vs ∧
            okO (R G) G W Q σ Φ1 H1 ((compL s.chk t tt me (wipeR ρ own) (s.items.drop (i + 1)) acc h2).bind fun acc h2 => .ok (newL b acc h2).1 (newL b acc h2).2))) →
              okO rB G W0 (fun c H5 => if c = true then tmE G W0 me σ5 H5 fun y H6 => ∃ acc, H6 D = some (.lst acc) ∧ acc.length < sizeLine ∧ (∃ acc2 vs h2 Φ2, Ext Φ1 H1 Φ2 (upd H6 D (.lst (acc ++ [y]))) ∧ D ∈ Φ2.ex ∧ Hr G Φ2 (upd H6 D (.lst (acc ++ [y]))) h2 ∧ (upd H6 D (.lst (acc ++ [y]))) D = some (.lst vs) ∧ Rs G Φ2 (upd H6 D (.lst (acc ++ [y]))) acc2 vs ∧
            okO (R G) G W Q σ Φ1 H1 ((compL s.chk t tt me (wipeR ρ own) (s.items.drop (i + 1)) acc2 h2).bind fun acc h2 => .ok (newL b acc h2).1 (newL b acc h2).2)) else
                  ∃ acc vs h2 Φ2, Ext Φ1 H1 Φ2 H5 ∧ D ∈ Φ2.ex ∧ Hr G Φ2 H5 h2 ∧ H5 D = some (.lst vs) ∧ Rs G Φ2 H5 acc vs ∧
            okO (R G) G W Q σ Φ1 H1 ((compL s.chk t tt me (wipeR ρ own) (s.items.drop (i + 1)) acc h2).bind fun acc h2 => .ok (newL b acc h2).1 (newL b acc h2).2)) σ5 Φ4 H'' o := by
            intro o k qq st
            cases o with
            | ok c h5 => exact fun Φ5 H5 c' e5 r5 ec => by cases ec; exact st c h5 Φ5 H5 e5 r5 qq
            | ex c fs xs h5 => exact qq.elim
            | bad => exact qq.elim
          refine base q2 fun c h5 Φ5 H5 e5 r5 q5 => ?_
          have D5 : H5 D = some (.lst vs) := e5.keep D _ (r4.exs D m4).1 D4 fun _ z => nomatch z
          have m5 : D ∈ Φ5.ex := e5.exs D m4
          have ra5 : Rs G Φ5 H5 acc vs := ra.ext (e4.trans e5)
          cases c with
          | false =>
            rw [if_neg Bool.false_ne_true] at q5 ⊢
            exact ⟨acc, vs, h5, Φ5, e2.trans (e4.trans e5), m5, r5, D5, ra5, q5⟩
          | true =>
            rw [if_pos rfl] at q5 ⊢
            refine ⟨ρ3, h5, Φ5, r5, rs5.ext e5, ?_⟩
            cases z : me ρ3 h5 with
            | ex c fs xs h6 => rw [z] at q5; exact q5.elim
            | bad => rw [z] at q5; exact q5.elim
            | ok v h6 =>
              rw [z] at q5
              intro Φ6 H6 y e6 r6 ry
              have q5' : okO (R G) G W Q σ Φ1 H1 ((if acc.length < sizeLine then compL s.chk t tt me (wipeR ρ own) (s.items.drop (i + 1)) (acc ++ [v]) h6 else .bad).bind fun acc h2 => .ok (newL b acc h2).1 (newL b acc h2).2) := q5
              split at q5'
              · rename_i hz
                have m6 : D ∈ Φ6.ex := e6.exs D m5
                obtain ⟨r7, mv⟩ := r6.hid (o := .lst (vs ++ [y])) m6
                refine ⟨vs, e6.keep D _ (r5.exs D m5).1 D5 (fun _ z => nomatch z), by rw [← ra.length]; exact hz, acc ++ [v], vs ++ [y], h6, Φ6, ?_, m6, r7, upd_same, ((ra5.ext e6).snoc ry).mv mv, q5'⟩
                have e9 := (e2.trans e4).trans (e5.trans e6)
                exact ⟨e9.exs, e9.exn, e9.pre, e9.new, fun a o k e nt => by rw [upd_ne (ne_of_none e nD)]; exact e9.keep a o k e nt⟩
              · exact q5'.elim
    · exact q2.elim
  · have hi' : i = s.items.length := by omega
    subst hi'
    rw [List.drop_length] at q2
    unfold compL at q2
    split at q2
    · rename_i hc
      refine .inl ⟨(rj Φ2 H2 h2 e2 r2 hc _).2 (Nat.le_refl _), ?_⟩
      have nφ := (r2.exs D mD).1
      have wk : Mv Φ2 H2 ⟨Φ2.φ, Φ1.ex⟩ H2 := ⟨fun a u f e _ => ⟨⟨f.1, fun z => f.2 (e2.exs a z)⟩, e⟩, fun _ _ e => e⟩
      have rw' : Hr G ⟨Φ2.φ, Φ1.ex⟩ H2 h2 := ⟨r2.nd, r2.len, fun a ha => r2.exs a (e2.exs a ha), fun n u e => let ⟨a, x, y⟩ := r2.ob n u e; ⟨a, x, y.mv wk rfl⟩⟩
      have ew : Ext Φ1 H1 ⟨Φ2.φ, Φ1.ex⟩ H2 := ⟨fun _ z => z, fun _ z n _ => absurd z n, e2.pre, e2.new, e2.keep⟩
      have rD : R G ⟨Φ2.φ, Φ1.ex⟩ H2 (.lst acc) (.ref D) := ⟨D, vs, rfl, ⟨nφ, fD.2⟩, hD, ra.mv wk⟩
      cases b with
      | false => exact q2 _ H2 _ ew rw' rD
      | true =>
        have pre : Φ2.φ <+: Φ2.φ ++ [D] := List.prefix_append _ _
        have mv2 : Mv ⟨Φ2.φ, D :: Φ1.ex⟩ H2 ⟨Φ2.φ ++ [D], Φ1.ex⟩ H2 := by
          refine ⟨fun a u f e _ => ⟨⟨fun z => ?_, fun z => f.2 (List.mem_cons_of_mem _ z)⟩, e⟩, fun n a e => ?_⟩
          · rcases List.mem_append.mp z with z | z
            · exact f.1 z
            · exact f.2 (by rw [List.mem_singleton.mp z]; exact List.mem_cons_self)
          · show (Φ2.φ ++ [D])[n]? = some a
            rw [List.getElem?_append_left (List.getElem?_eq_some_iff.mp e).1]
            exact e
        have wk2 : Mv Φ2 H2 ⟨Φ2.φ, D :: Φ1.ex⟩ H2 := ⟨fun a u f e _ => ⟨⟨f.1, fun z => (List.mem_cons.mp z).elim (fun y => f.2 (y ▸ mD)) fun y => f.2 (e2.exs a y)⟩, e⟩, fun _ _ e => e⟩
        have mv3 : Mv Φ2 H2 ⟨Φ2.φ ++ [D], Φ1.ex⟩ H2 := ⟨fun a u f e nt => mv2.fr a u (wk2.fr a u f e nt).1 e nt, fun n a e => mv2.ref n a e⟩
        refine q2 ⟨Φ2.φ ++ [D], Φ1.ex⟩ H2 (.ref D) ⟨fun _ z => z, fun _ z n _ => absurd z n, e2.pre.trans pre, fun a z n => ?_, fun a o n e nt => e2.keep a o n e nt⟩ ⟨?_, ?_, fun a z => ?_, fun n u e => ?_⟩ ⟨D, ?_, rfl⟩
        · rcases List.mem_append.mp z with z | z
          · exact e2.new a z n
          · rw [List.mem_singleton.mp z]; exact Vd.of nD
        · refine List.nodup_append.mpr ⟨r2.nd, by simp, fun a ha c hc => ?_⟩
          rw [List.mem_singleton.mp hc]
          rintro rfl
          exact nφ ha
        · show (Φ2.φ ++ [D]).length = (h2 ++ [PO.lst acc]).length
          rw [List.length_append, List.length_append, r2.len]
          rfl
        · obtain ⟨x, y⟩ := r2.exs a (e2.exs a z)
          refine ⟨fun w => ?_, y⟩
          rcases List.mem_append.mp w with w | w
          · exact x w
          · exact fD.2 (by rw [← List.mem_singleton.mp w]; exact z)
        · have e' : (h2 ++ [PO.lst acc])[n]? = some u := e
          by_cases hn : n < h2.length
          · rw [List.getElem?_append_left hn] at e'
            obtain ⟨a, x, y⟩ := r2.ob n u e'
            exact ⟨a, mv3.ref n a x, y.mv mv3 rfl⟩
          · have hn' : n = h2.length := by
              have := (List.getElem?_eq_some_iff.mp e').1
              simp at this; omega
            subst hn'
            simp at e'
            subst e'
            exact ⟨D, by show (Φ2.φ ++ [D])[h2.length]? = some D; rw [← r2.len]; simp, vs, hD, ra.mv mv3⟩
        · show (Φ2.φ ++ [D])[h2.length]? = some D
          rw [← r2.len]; simp
    · exact q2.elim
end
section
variable {X : Cx} {W : WX}
theorem mts_nil : PTs X [] (tmT (gr X) W tYes_) := ⟨fun pins s σ H Q I ⟨ρ, h, Φ, r, rs, q⟩ => pts_nil.run pins s σ H Q I (q Φ H true .refl r rfl)⟩
theorem mts_one {c : Expr} {t : TMm} (h : PT X c (tmT (gr X) W t)) : PTs X [c] (tmT (gr X) W t) := pts_one h
variable {elt tg iter : Expr} {ifs : List Expr} {scope : Scope} {own : List (Str × Nat)} {pos : Pos} {mi : IMm} {t : Tg} {g : TG} {tt : TMm} {me : EM}
/-- [elt for tg in iter if ..] as a value -/
theorem me_lc (b : Bool) (hc : X.calm = true) (hN : X.N.Nodup) (hi : PI X tg iter (tmI (gr X) W mi)) (ok : BlkOk X.N X.env.scope scope own)
    (hg : ∀ (s : Shared) (H : Hp) (C : Addr) (cl : List (Str × Addr)) (fp : List Addr), PG (X.blk s H scope (compEnvC scope cl C X.env) fp) tg g)
    (ht : ∀ (s : Shared) (H : Hp) (C : Addr) (cl : List (Str × Addr)) (fp : List Addr), PTs (X.blk s H scope (compEnvC scope cl C X.env) fp) ifs (tmT (gr X) W0 tt))
    (he : ∀ (s : Shared) (H : Hp) (C : Addr) (cl : List (Str × Addr)) (fp : List Addr), PE (X.blk s H scope (compEnvC scope cl C X.env) fp) elt (tmE (gr X) W0 me))
    (eg : g = gTg X.K t := by rfl) (so : ∀ i ∈ slots t, i ∈ own.map (·.2) := by decide) (hs : ∀ x, foldedSetIterable iter X.env x = pure x := by intro _; rfl) :
    PE X (.ListComp elt [⟨tg, iter, ifs, 0⟩] scope pos) (tmE (gr X) W (mLc b (own.map (·.2)) mi t tt me)) := by
  subst eg
  exact PE_imp (pe_lc hc hN hi ok hg ht he hs) fun σ H Q q => okLc so q
/-- name = [..] on one line -/
theorem ms_lc (b : Bool) (i : Nat) {y : Str} {py spos : Pos} (hc : X.calm = true) (hN : X.N.Nodup) (hsw : swapsWith (.ListComp elt [⟨tg, iter, ifs, 0⟩] scope pos) (some (.Name y py)) spos.line X.env = pure true)
    (hi : PI X tg iter (tmI (gr X) W mi)) (ok : BlkOk X.N X.env.scope scope own)
    (hg : ∀ (s : Shared) (H : Hp) (C : Addr) (cl : List (Str × Addr)) (fp : List Addr), PG (X.blk s H scope (compEnvC scope cl C X.env) fp) tg g)
    (ht : ∀ (s : Shared) (H : Hp) (C : Addr) (cl : List (Str × Addr)) (fp : List Addr), PTs (X.blk s H scope (compEnvC scope cl C X.env) fp) ifs (tmT (gr X) W0 tt))
    (he : ∀ (s : Shared) (H : Hp) (C : Addr) (cl : List (Str × Addr)) (fp : List Addr), PE (X.blk s H scope (compEnvC scope cl C X.env) fp) elt (tmE (gr X) W0 me))
    (hy : X.N[i]? = some y := by rfl) (hyl : X.env.scope.names.lookup y = some .local := by rfl) (eg : g = gTg X.K t := by rfl) (so : ∀ i ∈ slots t, i ∈ own.map (·.2) := by decide) (hs : ∀ x, foldedSetIterable iter X.env x = pure x := by intro _; rfl) :
    PS X (.Assign [.Name y py] (.ListComp elt [⟨tg, iter, ifs, 0⟩] scope pos) spos) (tsm (gr X) W (mAsg (.nm i) (mLc b (own.map (·.2)) mi t tt me))) := by
  subst eg
  exact PS_imp (ps_setLc hc hN hy hyl hsw hi ok hg ht he hs) fun D σ H q => asgn_ok (t := .nm i) (fun σ H Q q => okLc so q) D σ H q
end
end Ev
set_option maxHeartbeats 2000000
/-! An own error with one field, line: class X(..ValueError): def __init__(self, line): super().__init__(line); self.line = line. The frame of the proof is that of the skeleton 42, its __init__ walked at the code that super() asks for. -/
namespace PySem
namespace FldX_line
open PySem.W PySem.Calls PyProof.Rows PySem.HandSPX
/-! ### the text of __init__ -/
abbrev fld : Str := "line"
def iA (p1 p2 : Pos) : Arguments := { posonlyargs := [], args := [{ arg := "self", annotation := none, pos := p1 }, { arg := fld, annotation := none, pos := p2 }], vararg := none, kwonlyargs := [], kw_defaults := [], kwarg := none, defaults := [] }
structure Ps where
  a : Pos
  b : Pos
  c : Pos
  d : Pos
  e : Pos
  f : Pos
  g : Pos
  h : Pos
  i : Pos
  j : Pos
def iB (q : Ps) : List Stmt :=
  [.Expr (.Call (.Attribute (.Call (.Name "super" q.a) [] [] q.b) "__init__" q.c) [.Name fld q.d] [] q.e) q.f, .Assign [.Attribute (.Name "self" q.g) fld q.h] (.Name fld q.i) q.j]
def iS : Scope := { kind := .function, names := [(PySem.Str.ofString "self", .local), (fld, .local), (PySem.Str.ofString "__class__", .free), (PySem.Str.ofString "super", .globalImplicit)], isGenerator := false, isCoroutine := false, more := [] }
/-- how the call of super().__init__ is read (where the text stands on one line) -/
def MethEv (q : Ps) : Prop := ∃ pl : Sem Bool, ∀ env : Env, eval (.Call (.Attribute (.Call (.Name "super" q.a) [] [] q.b) "__init__" q.c) [.Name fld q.d] [] q.e) env = (do
  let ov ← attributeBase (.Call (.Name "super" q.a) [] [] q.b) "__init__" env (eval (.Call (.Name "super" q.a) [] [] q.b) env)
  standAt q.c.atName
  let (f, first) ← holding [ov] (getMethod ov "__init__" pl)
  callWith q.e f first (backTo q.e (starEach [.Name fld q.d] env)) [])
/-- what the written part says of the class at C, and of its __init__, at fI -/
structure Txt (q : Ps) (prog : Program) (K : Frag) (mg : Str → Option Value) (cn : Str) (C fI : Addr) : Prop where
  hev : MethEv q
  gC : mg cn = some (.ref C)
  gs : mg "super" = none
  cls : ∃ nm q N bs bm sn sub ab col dd k0 k1 k2 k3 k5, K.lookup C = some (excClassObj nm q C N bs bm true sn sub ab col dd k0 k1 k2 k3 k5 "ValueError.__new__") ∧ refsVE bm = true
  sa : findIn K (.ref C) "__setattr__" = some (some (.builtin "object.__setattr__"))
  ga : findIn K (.ref C) "__getattribute__" = some (some (.builtin "BaseException.__getattribute__"))
  gg : findIn K (.ref C) "__getattr__" = some none
  noN : findIn K (.ref C) fld = some none
  iC : findIn K (.ref C) "__init__" = some (some (.ref fI))
  tC : typeIn K (.ref fI) = some (.type "function")
  kC : keepIn K (.ref C) = true
  exC : subIn K (.ref C) (.type "BaseException") = some true
  tyC : typeIn K (.ref C) = some (.type "type")
  hdC : hasDictIn K C = true
  hB : subIn K (.ref C) (.type "ValueError") = some true
  hm : ks_superIn K C C "__init__" = some (some (.builtin "ValueError.__init__"))
  hs : mroIn K C (.ref C) = some true
  ho : nsIn K cStatics "thirdparty.any" = some none
  htop : (prog.main.scope.names.lookup ("super" : Str)).isSome = false
  fn : ∃ (oc : Value) (od : Option Addr) (doc pm : Value) (an : Option Addr) (cda cc : Addr) (ct : Value) (osl : Array (Option Value)) (p1 p2 : Pos) (cl ccl : Value) (cld cdd : Option Addr) (csl ccs : Array (Option Value)) (vs : Array Value) (file : Str) (tf : Tok) (qi : Str),
    K.lookup fI = some ⟨oc, od, .func (ksFn "__init__" qi (iA p1 p2) (iB q) iS .none .none doc pm an (.ref cda) ct cc), osl⟩ ∧ codeIn K (.ref cda) qi = true ∧
    K.lookup cc = some ⟨cl, cld, .cell (some (.ref C)), csl⟩ ∧ K.lookup cda = some ⟨ccl, cdd, .fields vs, ccs⟩ ∧ vs[2]? = some (.str file tf) ∧ ((prog.main.file : Str) == file) = true
theorem one_size (v : Value) : [v].length ≤ sizeLine := by
  rw [sizeLine_eq]
  exact (by decide : 1 ≤ 16777216)
/-- what __init__ leaves of a fresh exception at x -/
structure InitEnd (h h' : Heap) (x C dx t1 : Addr) (v : Value) : Prop where
  keep : ∀ b o, b ≠ x → h.get? b = some o → h'.get? b = some o
  obj : h'.get? x = some { cls := .ref C, dict := some dx, data := .fields #[.ref t1, .none, .none, .none, .bool false, .none] }
  dbig : h.objs.size ≤ dx
  dne : dx ≠ x
  ns : h'.Ns1 dx (fun y => if y = fld then some v else none)
/-- a made one -/
structure OwnMade (h h' : Heap) (e C d : Addr) (v : Value) : Prop where
  keep : ∀ b o, h.get? b = some o → h'.get? b = some o
  new : h.objs.size ≤ e
  obj : ∃ oe vs, h'.get? e = some oe ∧ oe.cls = .ref C ∧ oe.dict = some d ∧ oe.data = .fields vs ∧ vs[1]? = some .none
  dbig : h.objs.size ≤ d
  dne : d ≠ e
  ns : h'.Ns1 d (fun y => if y = fld then some v else none)
section
variable {prog : Program} {w : World} {A : Around} {E : Value → Shared → Prop} {R : Result → Shared → Prop} {s : Shared} {K : Frag} {mg : Str → Option Value} {cn : Str} {C fI : Addr} {q : Ps}
theorem init_walk (T : Txt q prog K mg cn C fI) {base : Heap} (kb : ∀ b o, base.get? b = some o → s.heap.get? b = some o) (md : L2.Mod K mg base) {x t0 : Addr} {v : Value} (hx : s.heap.get? x = some (excO C t0)) (hnb : base.get? x = none) (hroom : A.depth < recursionLimit)
    (hq : ∀ h' tk t1 dx, InitEnd s.heap h' x C dx t1 v → R (.ok (.ret .none)) { s with heap := h', toks := tk }) :
    codeAny (model prog w) A (.call (.ref fI) ⟨[.ref x, v], []⟩) R s := by
  obtain ⟨oc, od, doc, pm, an, cda, cc, ct, osl, p1, p2, cl, ccl, cld, cdd, csl, ccs, vs, file, tf, qi, hf, hcd, hcell, hcode, hvs, hfile⟩ := T.fn
  obtain ⟨nm, qn, N, bs, bm, sn, sub, ab, col, dd, k0, k1, k2, k3, k5, hC, hbm⟩ := T.cls
  have hcl : clsIn K C = some { name := nm, bases := bs, mro := .ref C :: bm, ns := N, qualname := qn, hasDict := true, slotNames := sn, subclasses := sub, abstract := ab, collection := col, hasDel := false } := by unfold clsIn; rw [hC] <;> rfl
  have X : K.In s.heap := md.kin.keeps kb
  have lim : s.heap.NoLimit := md.nolimit.keeps kb
  have l1 : iS.names.lookup ("self" : Str) = some .local := rfl
  have l2 : iS.names.lookup fld = some .local := rfl
  have l3 : iS.names.lookup ("__class__" : Str) = some .free := rfl
  have l4 : iS.names.lookup ("super" : Str) = some .globalImplicit := rfl
  refine ks_codeAny_call_defAt (fd := ksFn "__init__" qi (iA p1 p2) (iB q) iS .none .none doc pm an (.ref cda) ct cc) (body := iB q) (binds := [("self", .ref x), (fld, v)]) hroom (X _ _ hf) rfl lim (codeRec_of X hcd) rfl
    (.of_eq ?bind) ?hcell ?hloc (fun h₁ hns hk₁ => ?_) rfl rfl rfl
  case bind => first | rfl | with_unfolding_all rfl
  case hcell =>
    intro y hy
    have hy' : y ∈ iS.names := hy
    unfold iS at hy'
    simp only [List.mem_cons, List.not_mem_nil, or_false] at hy'
    rcases hy' with rfl | rfl | rfl | rfl <;> exact fun z => nomatch z
  case hloc =>
    intro y hy
    simp only [List.mem_cons, List.not_mem_nil, or_false] at hy
    rcases hy with rfl | rfl
    · exact l1
    · exact l2
  have X₁ : K.In h₁ := X.keeps hk₁
  have kb₁ : ∀ b o, base.get? b = some o → h₁.get? b = some o := fun b o e => hk₁ b o (kb b o e)
  have hx₁ : h₁.get? x = some (excO C t0) := hk₁ _ _ hx
  obtain ⟨oD, hD1, hD2⟩ : ∃ oD, h₁.get? C = some oD ∧ ∃ cd, oD.data = .cls cd := ⟨_, X₁ _ _ hC, _, rfl⟩
  obtain ⟨cdD, hD2⟩ := hD2
  obtain ⟨mb, hb1, hb2⟩ := md.blt
  have hself : (fun y => ([("self", .ref x), (fld, v)] : List (Str × Value)).reverse.lookup y) "self" = some (.ref x) := rfl
  have hfld : (fun y => ([("self", .ref x), (fld, v)] : List (Str × Value)).reverse.lookup y) fld = some v := rfl
  have hxC : x ≠ C := fun z => by
    rw [z, X₁ _ _ hC] at hx₁
    have z2 := Option.some.inj hx₁
    have z3 := congrArg Obj.data z2
    cases z3
  obtain ⟨pl, hev⟩ := T.hev
  unfold iB
  refine ks_wpAt_execs_cons (ks_wpAt_Expr_any (ks_wpAt_MethodCall (pl := pl) (he := hev _) (ks_wpAt_super_base (env := callEnv (ksFn "__init__" qi (iA p1 p2) _ iS .none .none doc pm an (.ref cda) ct cc) s.heap.objs.size fI) l4 l3 (by decide) rfl (X₁ _ _ hf) rfl rfl rfl (X₁ _ _ hcode) rfl hvs hfile T.htop ?_)))
  refine ks_loadName_global rfl l4 (loadGlobal_builtin (md.glob.keeps kb₁) T.gs (hb1.keeps kb₁) ((hb2 _ (by decide)).trans rfl) ⟨rfl, ?_⟩)
  refine wpAny_loadName_free rfl l3 rfl ⟨_, X₁ _ _ hcell, rfl⟩ ?_
  refine wpAny_loadName_local rfl l1 hns hself ?_
  refine ks_wpAny_isType_cls hD1 hD2 ⟨rfl, ?_⟩
  refine ks_wpAny_call_super hD1 hD2 hx₁ rfl (fun c z => nomatch z) (looks_mroIn X₁ T.hs) (fun h₂ e₂ k₂ => ?_)
  -- the method, bound to the exception
  have X₂ : K.In h₂ := X₁.keeps k₂
  have hx₂ : h₂.get? x = some (excO C t0) := k₂ _ _ hx₁
  have IA : InstAt h₂ x (excO C t0) C none := ⟨hx₂, rfl, rfl, trivial⟩
  refine kxs_getMethod kxs_ValueError e₂ (looks_opaque X₂ T.ho) (l₀ := .ref C :: bm) (fun A Q E s k q => wpAny_bind ((looks_clsIn X₂ hcl) A _ E s k (wpAny_pure q))) rfl X₂ ?hm (IA.type.andThen (looks_subIn X₂ T.hB)) hxC (by decide) ?_
  case hm =>
    have z := T.hm
    unfold ks_superIn at z
    rw [hcl] at z
    exact z
  -- the argument
  have hns₂ : h₂.Ns s.heap.objs.size fun y => ([("self", .ref x), (fld, v)] : List (Str × Value)).reverse.lookup y := hns.keeps k₂
  refine kxs_callWith (i := "ValueError.__init__") (x := x) rfl (evalArgs_plain (spliced_cons ?_))
  refine wpAny_Name (wpAny_loadName_local rfl l2 (hns₂.keeps (fun b o e => Heap.get?_push_of_some _ e)) hfld ?_) (by decide)
  refine spliced_nil ⟨Heap.get?_push_size _ rfl, ?_⟩
  -- the built-in __init__
  refine wpAny_call (codeAny_of_tree ?_)
  show wpAny _ _ (callAny (.ref h₂.objs.size) ⟨[v], []⟩) _ _ _
  simp only [callAny]
  refine wpAny_bind (wpAny_load (Heap.get?_push_size h₂ rfl) ?_)
  simp only [kxs_mw, show (Value.type "method-wrapper" == Value.type "method" || Value.type "method-wrapper" == Value.type "builtin_function_or_method" || Value.type "method-wrapper" == Value.type "method-wrapper") = true by decide, if_true]
  refine KFB.if_so (by decide) ?_
  have k₃ : ∀ b o, h₂.get? b = some o → (h₂.push (kxs_mw "ValueError.__init__" x)).get? b = some o := fun b o e => Heap.get?_push_of_some _ e
  refine wpAny_bind (check_bound_init F.excBase_ValueError.toExcCallFacts (k₃ _ _ (X₂ _ _ hC)) (k₃ _ _ hx₂) rfl ?_)
  refine wpAny_bind (wpAny_pure (wpAny_pure ?_))
  refine ⟨plainId_quiet F.excBase_ValueError.init.plain _, codeAny_builtin F.excBase_ValueError.initEntry ?_⟩
  refine exc_init_tree (cls := .ref C) (t0 := t0) (dv := none) (c2 := .none) (c3 := .none) (b4 := .bool false) (k₃ _ _ hx₂) (one_size v) (fun h₄ k₄ hx₄ _ => ?_)
  -- self.line = line
  have k14 : ∀ b o, b ≠ x → h₁.get? b = some o → h₄.get? b = some o := fun b o hb e => k₄ b o hb (k₃ b o (k₂ b o e))
  have hxL : s.heap.objs.size ≠ x := Nat.ne_of_gt (Heap.lt_size hx)
  have hnx : K.lookup x = none := by
    cases e : K.lookup x with
    | none => rfl
    | some o =>
      have z : base.get? x = some o := md.kin _ _ e
      rw [hnb] at z; cases z
  have X₄ : K.In h₄ := fun a o e => k14 a o (fun z => by rw [z, hnx] at e; cases e) (X₁ a o e)
  have hns₄ : h₄.Ns s.heap.objs.size fun y => ([("self", .ref x), (fld, v)] : List (Str × Value)).reverse.lookup y := by
    obtain ⟨o, es, ep, ho, r⟩ := hns
    exact ⟨o, es, ep, k14 _ _ hxL ho, r⟩
  refine wpAt_of_wpAny (wpAny_execs_cons (plainObj_wpAny_Assign_Attribute ?_))
  refine wpAny_Name (wpAny_loadName_local rfl l2 hns₄ hfld ?_) (by decide)
  refine wpAny_Name (wpAny_loadName_local rfl l1 hns₄ hself ?_) (by decide)
  refine set_plain X₄ (ox := excO C (h₂.push (kxs_mw "ValueError.__init__" x)).objs.size) (od := none) ⟨hx₄, rfl, rfl, trivial⟩ T.sa ?_
  refine exc_osa X₄ hx₄ hcl (show refsVE (.ref C :: bm) = true from hbm) rfl T.noN (fun h₅ tk₅ dx k₅ dn dne hx₅ hn₅ => ?_)
  have sz : ∀ {b o}, s.heap.get? b = some o → b ≠ x → h₅.get? b = some o := fun {b o} e hb => k₅ b o hb (k14 b o hb (hk₁ b o e))
  have big : s.heap.objs.size ≤ dx := by
    have z : s.heap.objs.size < h₄.objs.size := hns₄.lt
    exact Nat.le_trans (Nat.le_of_lt z) dn
  exact wpAny_execs_nil (hq h₅ tk₅ _ dx ⟨fun b o hb e => sz e hb, hx₅, big, dne, hn₅⟩)
theorem made (T : Txt q prog K mg cn C fI) {base : Heap} {v : Value} (kb : ∀ b o, base.get? b = some o → s.heap.get? b = some o) (md : L2.Mod K mg base) (hroom : A.depth + 1 < recursionLimit)
    (hq : ∀ h' tk e d, OwnMade s.heap h' e C d v → R (.ok (.ret (.ref e))) { s with heap := h', toks := tk }) :
    codeAny (model prog w) A (.call (.ref C) ⟨[v], []⟩) R s := by
  obtain ⟨nm, qn, N, bs, bm, sn, sub, ab, col, dd, k0, k1, k2, k3, k5, hC, hbm⟩ := T.cls
  have X : K.In s.heap := md.kin.keeps kb
  obtain ⟨hp, g, dr, tk, os⟩ := s
  have k : ∀ b o, hp.get? b = some o → ((hp.push (kdv_tup [v])).push (excO C hp.objs.size)).get? b = some o := fun b o e => Heap.get?_push_of_some _ (Heap.get?_push_of_some _ e)
  have hget : ((hp.push (kdv_tup [v])).push (excO C hp.objs.size)).get? (hp.objs.size + 1) = some (excO C hp.objs.size) := by heap_get
  have hnb : base.get? (hp.objs.size + 1) = none := by
    cases e : base.get? (hp.objs.size + 1) with
    | none => rfl
    | some o => exact absurd (Nat.lt_of_succ_lt (Heap.lt_size (kb _ _ e))) (Nat.lt_irrefl _)
  refine call_own F.excBase_ValueError (fun X => refsVE_contains X bm hbm) (X _ _ hC) (looks_findIn X T.iC) (fun self => bind_fn X self T.tC) (one_size v) ?_
  refine init_walk (s := ⟨(hp.push (kdv_tup [v])).push (excO C hp.objs.size), g, dr, tk, os⟩) T (fun b o e => k b o (kb b o e)) md hget hnb ?_ fun h' tk' t1 dx ⟨k', hx, dn, dne, hns⟩ => ?_
  · show A.depth + 1 < recursionLimit
    exact hroom
  · have old : ∀ b o, hp.get? b = some o → h'.get? b = some o := fun b o e => k' b o (Nat.ne_of_lt (Nat.lt_succ_of_lt (Heap.lt_size e))) (k b o e)
    have z : hp.objs.size + 1 + 1 ≤ dx := by
      first
        | (simpa only [Heap.size_push] using dn)
        | exact dn
        | (have q := dn; rw [Heap.size_push, Heap.size_push] at q; exact q)
    exact ⟨rfl, hq h' tk' (hp.objs.size + 1) dx ⟨old, Nat.le_succ _, ⟨_, _, hx, rfl, rfl, rfl, rfl⟩, Nat.le_trans (Nat.le_trans (Nat.le_succ _) (Nat.le_succ _)) z, dne, hns⟩⟩
end
end FldX_line
end PySem
namespace Ev
namespace X_line
open PySem PySem.Spec PyProof.Rows L2
open PySem.FldX_line (fld Txt)
theorem relO_fld {v : V} {v' : Value} (r : RelV v v') (f : Str) : RelO (List.lookup f [(fld, v)]) (if f = fld then some v' else none) := by
  by_cases hw : f = fld
  · subst hw
    rw [if_pos rfl]
    have q : List.lookup fld [(fld, v)] = some v := by simp [List.lookup]
    rw [q]
    exact r
  · rw [if_neg hw]
    have qw : (f == fld) = false := by simpa using hw
    have q2 : List.lookup f [(fld, v)] = none := by simp [List.lookup, qw]
    rw [q2]
    trivial
section
variable {X : Cx} {q : PySem.FldX_line.Ps} {cn : Str} {C fI : Addr}
/-- X(e) -/
def tMk (C : Addr) (ta : TA) : Sl → Hp → XK → Prop := fun σ H Q => ta σ H fun vs H1 => ∃ v, vs = [v] ∧ ∀ d, H1 d = none → Q (.ref C) (some d) (upd H1 d (.xd [(fld, v)]))
theorem pmk {a : Expr} {ta : TA} {p pos : Pos} {k : Nat} (T : Txt q X.prog X.K X.mg cn C fI) (hr : Room k X.A) (ha : PA X [a] ta) (hg : Gl X cn) (hd : (cn == ("__debug__" : Str)) = false)
    (he : starEach (a :: []) X.env = (false, eval a X.env) :: starEach [] X.env := by rfl) (hpl : (backTo pos (starEach [] X.env)).any (·.1) = false := by rfl) :
    PMk X (.Call (.Name cn p) [a] [] pos) (tMk C ta) := by
  intro pins s σ H Q I h
  refine wpAny_Call_Name_kw (ld_glob I hg T.gC ?_ hd)
  refine PySem.W.callWith_K (h₀ := X.base) I.ok.mod.kin T.kC (thn (ha.run pos pins s σ H _ I h) fun us s1 hh => ?_) he hpl
  obtain ⟨vs, H1, I1, r1, v, ev, q1⟩ := hh
  subst ev
  refine ⟨I1.kIn, ?_⟩
  cases r1 with
  | cons rv rn =>
    rename_i v' us'
    cases rn
    show wpAny _ _ (call (.ref C) [v']) _ _ _
    have kb := I1.bk
    obtain ⟨hp, g, dr, tk, os⟩ := s1
    refine wpAny_call (PySem.FldX_line.made T kb I1.ok.mod (by have := hr.dp; omega) fun h' tk' e d M => ?_)
    show MkP X pins σ Q (.ref e) ⟨h', g, dr, tk', os⟩
    obtain ⟨oe, fv, hoe, hc, hd, hdat, h1⟩ := M.obj
    have hns := M.ns
    obtain ⟨G', g1, g2⟩ := restrict h' fun b => decide (b ≠ e)
    have gk : ∀ b, b ≠ e → G'.get? b = h'.get? b := fun b hb => g1 b (decide_eq_true hb)
    have ge : G'.get? e = none := g2 e (by simp)
    have old : ∀ b o, hp.get? b = some o → G'.get? b = some o := fun b o q => (gk b (Nat.ne_of_lt (Nat.lt_of_lt_of_le (Heap.lt_size q) M.new))).trans (M.keep b o q)
    have ob : ObjOk X.prog X.w (upd H1 d (.xd [(fld, v)])) G' d (.xd [(fld, v)]) :=
      ⟨_, hns.at (fun o q => (gk d M.dne).trans q), fun f => relO_fld rv f⟩
    have J : Inv X pins σ (upd H1 d (.xd [(fld, v)])) ⟨G', g, dr, tk', os⟩ := I1.laid (t' := tk') old M.dbig ob
    refine ⟨e, oe, fv, ⟨G', g, dr, tk', os⟩, _, .ref C, some d, rfl, J, fun b o q => ?_, ge, hoe, ⟨hc, hd⟩, hdat, h1, ?_, rfl, I1.bare, raises_own T.exC T.tyC, q1 d (I1.hok.fresh M.dbig)⟩
    · by_cases hb : b = e
      · have q' : G'.get? b = some o := q
        rw [hb, ge] at q'; cases q'
      · exact (gk b hb).symm.trans q
    · rw [upd_ne (Ne.symm M.dne)]
      exact I1.hok.fresh M.new
/-- raise X(e) -/
def mRaise (cn : Str) (as : AM) : SM := fun ρ h => (as ρ h).st ρ fun ps h1 => match ps with
  | [p] => .ex cn [fld] [p] ρ h1
  | _ => .bad
theorem ms_raise {W : WX} {a : Expr} {mr : AM} {p pos pos2 : Pos} {k : Nat} (hc : X.calm = true) (T : Txt q X.prog X.K X.mg cn C fI) (hr : Room k X.A) (tk : Takes X W) (ha : PA X [a] (tmA (gr X) W mr)) (hg : Gl X cn := by rfl) (hd : (cn == ("__debug__" : Str)) = false := by decide)
    (he : starEach (a :: []) X.env = (false, eval a X.env) :: starEach [] X.env := by rfl) (hpl : (backTo pos (starEach [] X.env)).any (·.1) = false := by rfl) :
    PS X (.Raise (some (.Call (.Name cn p) [a] [] pos)) none pos2) (tsm (gr X) W (mRaise cn mr)) := PS_imp (ps_raise hc tk (pmk T hr ha hg hd he hpl)) fun D σ H ⟨ρ, h, Φ, r, rs, q⟩ =>
  ⟨ρ, h, Φ, r, rs, okS.st rs q fun ps h1 Φ1 H1 xs e1 r1 rp q1 => by
    split at q1
    · rename_i p
      obtain ⟨v, rfl, rv⟩ := rp.one
      refine ⟨v, rfl, fun d nd => ?_⟩
      have e2 : Ext Φ1 H1 Φ1 (upd H1 d (.xd [(fld, v)])) := Ext.laid r1 nd
      exact q1 Φ1 _ C (some d) σ e2 (r1.laid nd) ((rs.ext e1).ext e2) T.gC (.inr ⟨d, [(fld, v)], rfl, (fun z => nomatch z), r1.fre nd, upd_same, rfl, v, [], rfl, rv.ext e2, rfl⟩)
    · exact q1.elim⟩
end
end X_line
end Ev
/-! Ev7: stores to items, raise, a def by its body. -/
namespace Ev
open PySem PySem.Spec PyProof.Rows L2

/-! ### xs[i] = e -/
def fSetL (p q v : PV) (h : PH) : Option PH := match p, q with
  | .ref n, .int k => match h[n]? with
    | some (.lst xs) => (ixN xs.length k).map fun j => h.set n (.lst (xs.set j v))
    | _ => none
  | _, _ => none
def mSetI (o i e : EM) : SM := fun ρ h => (e ρ h).st ρ fun v h1 => (o ρ h1).st ρ fun p h2 => (i ρ h2).st ρ fun q h3 => match fSetL p q v h3 with
  | some h4 => .nx ρ h4
  | none => .bad
section
variable {X : Cx} {W : WX} {o i e : Expr} {mo mi me : EM} {p pos : Pos}
theorem ms_seti (he : PE X e (tmE (gr X) W me)) (ho : PE X o (tmE (gr X) W mo)) (hi : PE X i (tmE (gr X) W mi))
    (ha : ∀ v, assign (.Subscript o i p) X.env v = (do
      let ov ← holding [v] (eval o X.env)
      let iv ← holding [v, ov] (eval i X.env)
      standAt p
      holding [v, ov, iv] (setItem ov iv v)
      release [v, ov, iv] []) := by intro _; rfl)
    (hs : swapsWithSole [.Subscript o i p] e pos.line X.env = pure false := by rfl) (hw : swappedStores [.Subscript o i p] e X.env = pure none := by rfl)
    (h1 : (assignEach [.Subscript o i p] X.env).map (·.2) = [assign (.Subscript o i p) X.env] := by rfl) : PS X (.Assign [.Subscript o i p] e pos) (tsm (gr X) W (mSetI mo mi me)) :=
  PS_imp (ps_asg he (pg_sub ho hi set_list ha) hs hw h1) fun D σ H ⟨ρ, h, Φ, r, rs, q⟩ =>
    ⟨ρ, h, Φ, r, rs, okS.st rs q fun v h1 Φ1 H1 x e1 r1 rv q1 => ⟨ρ, h1, Φ1, r1, rs.ext e1, okS.st (rs.ext e1) q1 fun p h2 Φ2 H2 y e2 r2 rp q2 =>
      ⟨ρ, h2, Φ2, r2, (rs.ext e1).ext e2, okS.st ((rs.ext e1).ext e2) q2 fun q h3 Φ3 H3 z e3 r3 rq q3 => by
        split at q3
        · rename_i h4 e4
          unfold fSetL at e4
          split at e4
          · rename_i n k
            split at e4
            · rename_i xs ex
              cases ej : ixN xs.length k with
              | none => rw [ej] at e4; cases e4
              | some j =>
                rw [ej] at e4
                cases e4
                obtain ⟨a, g1, vs, g2, g3⟩ := r3.ob n _ ex
                obtain ⟨b, g4, g5⟩ := rp.ext e3
                rw [g1] at g4; cases g4
                have ew : Ext Φ3 H3 Φ3 (upd H3 a (.lst (vs.set j x))) := Ext.wrote g1
                refine ⟨a, vs, k, j, g5, rq, g2, by rw [← g3.length]; exact ej, q3 Φ3 _ σ ew (r3.wrote g1 ⟨_, upd_same, ?_⟩) ((((rs.ext e1).ext e2).ext e3).ext ew)⟩
                exact (g3.set j ((rv.ext e2).ext e3)).ext ew
            · cases e4
          · cases e4
        · exact q3.elim⟩⟩⟩
end

/-! ### raise X() -/
section
variable {X : Cx} {W : WX} {pos pos2 : Pos}
theorem pmk_own0 {C : Addr} {bmB : List Value} {B newId initId : String} {x : Str} {p : Pos} (F : ExcBaseFacts B newId initId bmB) (q : PySem.W.excIn X.K C bmB newId = true) (gC : X.mg x = some (.ref C))
    (kC : PySem.W.keepIn X.K (.ref C) = true) (r : Raises X (.ref C)) (hg : Gl X x) (hdb : (x == ("__debug__" : Str)) = false) : PMk X (.Call (.Name x p) [] [] pos) (fun _ H Q => Q (.ref C) none H) := by
  intro pins s σ H Q I h
  obtain ⟨bm, N, nm, qn, bs, hdct, sn, sub, ab, col, dd, k0, k1, k2, k3, k5, mN, hC, hN, hni, T⟩ := exc_obj I.kIn q
  have made : wpAny (model X.prog X.w) X.A (call (.ref C) []) (MkP X pins σ Q) X.xe s :=
    wpAny_call_exc_subT F T hC hN hni (fun h' e hm => mk_of I hm r h (I.hok.gone hm.new)) (Nat.zero_le _)
  exact wpAny_Call_Name_kw (ld_glob I hg gC (PySem.W.callWith_K0 I.kIn kC made) hdb)
/-- what is asked of an own error class without __init__ of its own, over ValueError -/
structure Ex0 (K : PySem.W.Frag) (mg : Str → Option Value) (x : Str) (C : Addr) : Prop where
  g : mg x = some (.ref C)
  q : PySem.W.excIn K C [.type "ValueError", .type "Exception", .type "BaseException", .type "object"] "ValueError.__new__" = true
  k : PySem.W.keepIn K (.ref C) = true
  b : PySem.W.subIn K (.ref C) (.type "BaseException") = some true
  t : PySem.W.typeIn K (.ref C) = some (.type "type")
def mRaise0 (x : Str) : SM := fun ρ h => .ex x [] [] ρ h
theorem ms_raise0 {x : Str} {C : Addr} {p : Pos} (hc : X.calm = true) (T : Ex0 X.K X.mg x C) (tk : Takes X W) (hg : Gl X x := by rfl) (hdb : (x == ("__debug__" : Str)) = false := by decide) :
    PS X (.Raise (some (.Call (.Name x p) [] [] pos)) none pos2) (tsm (gr X) W (mRaise0 x)) :=
  PS_imp (ps_raise hc tk (pmk_own0 PySem.F.excBase_ValueError T.q T.g T.k (raises_own T.b T.t) hg hdb)) fun D σ H ⟨ρ, h, Φ, r, rs, q⟩ => q Φ H C none σ .refl r rs T.g (.inl ⟨rfl, rfl, rfl⟩)
end

/-! ### a def's own objects are told by content when it is left -/
mutual
def sub (f : Nat → PV) : PV → PV
  | .ref n => f n
  | .tup xs => .tup (subs f xs)
  | .lst xs => .lst (subs f xs)
  | .rol xs => .rol (subs f xs)
  | .dct ks xs => .dct ks (subs f xs)
  | .ins c fs xs => .ins c fs (subs f xs)
  | .non => .non
  | .bl b => .bl b
  | .int i => .int i
  | .str x => .str x
  | .ty n => .ty n
  | .gl x => .gl x
  | .err a c d fs xs => .err a c d fs (subs f xs)
def subs (f : Nat → PV) : List PV → List PV
  | [] => []
  | p :: ps => sub f p :: subs f ps
end
mutual
/-- no reference from n on -/
def cl (n : Nat) : PV → Bool
  | .ref m => decide (m < n)
  | .tup xs => cls n xs
  | .lst xs => cls n xs
  | .rol xs => cls n xs
  | .dct _ xs => cls n xs
  | .ins _ _ xs => cls n xs
  | .non => true
  | .bl _ => true
  | .int _ => true
  | .str _ => true
  | .ty _ => true
  | .gl _ => true
  | .err _ _ _ _ xs => cls n xs
def cls (n : Nat) : List PV → Bool
  | [] => true
  | p :: ps => cl n p && cls n ps
end
def subO (f : Nat → PV) : PO → PO
  | .tab P q => .tab P q
  | .lst xs => .lst (subs f xs)
  | .dct ks xs => .dct ks (subs f xs)
  | .ins c fs xs => .ins c fs (subs f xs)
def clO (n : Nat) : PO → Bool
  | .tab _ _ => true
  | .lst xs => cls n xs
  | .dct _ xs => cls n xs
  | .ins _ _ xs => cls n xs
def toP : PO → (List PV → List PV) → PV
  | .tab _ _, _ => .non
  | .lst xs, g => .lst (g xs)
  | .dct ks xs, g => .dct ks (g xs)
  | .ins c fs xs, g => .ins c fs (g xs)
/-- the objects from n on, by content, k deep -/
def res (h : PH) (n : Nat) : Nat → Nat → PV
  | 0, m => .ref m
  | k + 1, m => if m < n then .ref m else match h[m]? with
    | some (.tab _ _) => .ref m
    | some o => toP o (subs (res h n k))
    | none => .ref m
def outF (frz : Bool) (n : Nat) (v : PV) (h : PH) : Out PV :=
  if h.length = n ∨ frz = false then .ok v h else
    if cl n (sub (res h n 5) v) && ((h.take n).map (subO (res h n 5))).all (clO n) then .ok (sub (res h n 5) v) ((h.take n).map (subO (res h n 5))) else .bad
def outX (frz : Bool) (n : Nat) (c : Str) (fs : List Str) (xs : List PV) (h : PH) : Out PV :=
  if h.length = n ∨ frz = false then .ex c fs xs h else
    if cls n (subs (res h n 5) xs) && ((h.take n).map (subO (res h n 5))).all (clO n) then .ex c fs (subs (res h n 5) xs) ((h.take n).map (subO (res h n 5))) else .bad
def mDef (n sl : Nat) (frz : Bool) (body : SM) : DF := fun ps h => if ps.length = n then (match body (ps.map some ++ List.replicate (sl - n) none) h with
  | .nx _ h1 => outF frz h.length .non h1
  | .rt v h1 => outF frz h.length v h1
  | .ex c fs xs _ h1 => outX frz h.length c fs xs h1
  | _ => .bad) else .bad
theorem mDef_len {n sl : Nat} {frz : Bool} {body : SM} {ps : List PV} {h : PH} (e : mDef n sl frz body ps h ≠ .bad) : ps.length = n := by
  unfold mDef at e
  by_cases hl : ps.length = n
  · exact hl
  · rw [if_neg hl] at e; exact absurd rfl e
section
variable {G : Gr} {Φ Φ' : Fo} {H : Hp} {n : Nat} {f : Nat → PV}
mutual
theorem sub_ok (fr : ∀ a, Fr Φ a → Fr Φ' a) (hf : ∀ m v, R G Φ H (.ref m) v → cl n (f m) = true → R G Φ' H (f m) v) : ∀ {p : PV} {v : V}, R G Φ H p v → cl n (sub f p) = true → R G Φ' H (sub f p) v
  | .ref m, v, r, c => hf m v r c
  | .tup xs, v, r, c => by
    obtain ⟨a, vs, h1, h2, h3⟩ := r
    exact ⟨a, vs, h1, h2.imp (fun q => ⟨fr a q.1, q.2⟩) (fun q => q), subs_ok fr hf h3 c⟩
  | .lst xs, v, r, c => by
    obtain ⟨a, vs, h1, h2, h3, h4⟩ := r
    exact ⟨a, vs, h1, fr a h2, h3, subs_ok fr hf h4 c⟩
  | .rol xs, v, r, c => by
    obtain ⟨a, vs, h1, h2, h3⟩ := r
    exact ⟨a, vs, h1, h2.imp (fun q => ⟨fr a q.1, q.2⟩) (fun q => q), subs_ok fr hf h3 c⟩
  | .dct ks xs, v, r, c => by
    obtain ⟨a, kvs, h1, h2, h3, h4, h5⟩ := r
    exact ⟨a, kvs, h1, fr a h2, h3, h4, subs_ok fr hf h5 c⟩
  | .ins cn fs xs, v, r, c => by
    obtain ⟨a, C, dx, kvs, h1, h2, h3, h4, h5, h6⟩ := r
    exact ⟨a, C, dx, kvs, h1, h2, fr a h3, h4, h5, subs_ok fr hf h6 c⟩
  | .non, _, r, _ => r
  | .bl _, _, r, _ => r
  | .int _, _, r, _ => r
  | .str _, _, r, _ => r
  | .ty _, _, r, _ => r
  | .gl _, _, r, _ => r
  | .err _ _ _ _ _, _, r, c => by
    obtain ⟨h1, h2⟩ := r
    refine ⟨h1, h2.imp (fun z => z) fun z => ?_⟩
    obtain ⟨kvs, k1, k2, k3, k4⟩ := z
    exact ⟨kvs, fr _ k1, k2, k3, subs_ok fr hf k4 c⟩
theorem subs_ok (fr : ∀ a, Fr Φ a → Fr Φ' a) (hf : ∀ m v, R G Φ H (.ref m) v → cl n (f m) = true → R G Φ' H (f m) v) : ∀ {p : List PV} {v : List V}, Rs G Φ H p v → cls n (subs f p) = true → Rs G Φ' H (subs f p) v
  | [], _, r, _ => r
  | p :: ps, _, r, c => by
    obtain ⟨v, vr, h1, h2, h3⟩ := r
    have c' := Bool.and_eq_true_iff.mp c
    exact ⟨v, vr, h1, sub_ok fr hf h2 c'.1, subs_ok fr hf h3 c'.2⟩
end
end
section
variable {G : Gr} {Φ : Fo} {H : Hp} {n : Nat} {h : PH}
theorem res_ok (r : Hr G Φ H h) : ∀ (k m : Nat) (v : V), R G Φ H (.ref m) v → cl n (res h n k m) = true → R G ⟨Φ.φ.take n, Φ.ex⟩ H (res h n k m) v := by
  have fr : ∀ a, Fr Φ a → Fr ⟨Φ.φ.take n, Φ.ex⟩ a := fun a f => ⟨fun z => f.1 (List.mem_of_mem_take z), f.2⟩
  have low : ∀ m v, R G Φ H (.ref m) v → m < n → R G ⟨Φ.φ.take n, Φ.ex⟩ H (.ref m) v := fun m v ⟨a, h1, h2⟩ hm => ⟨a, by show (Φ.φ.take n)[m]? = some a; rw [List.getElem?_take_of_lt hm]; exact h1, h2⟩
  intro k
  induction k with
  | zero => exact fun m v rv c => low m v rv (of_decide_eq_true c)
  | succ k ih =>
    intro m v rv c
    unfold res at c ⊢
    split
    · rename_i hm
      exact low m v rv hm
    · rename_i hm
      rw [if_neg hm] at c
      cases e : h[m]? with
      | none =>
        rw [e] at c
        exact absurd (of_decide_eq_true (show decide (m < n) = true from c)) hm
      | some o =>
        rw [e] at c
        obtain ⟨a, h1, ho⟩ := r.ob m o e
        obtain ⟨b, h2, rfl⟩ := rv
        rw [h1] at h2; cases h2
        have na : Fr ⟨Φ.φ.take n, Φ.ex⟩ a := by
          refine ⟨fun z => hm ?_, fun z => (r.exs a z).1 (List.mem_of_getElem? h1)⟩
          obtain ⟨i, hi, ei⟩ := List.getElem_of_mem z
          rw [List.getElem_take] at ei
          have hin : i < n := by rw [List.length_take] at hi; omega
          obtain ⟨l1, e1⟩ := List.getElem?_eq_some_iff.mp h1
          have := (List.getElem_inj r.nd).mp (ei.trans e1.symm)
          omega
        cases o with
        | tab P q =>
          exact absurd (of_decide_eq_true (show decide (m < n) = true from c)) hm
        | lst xs =>
          obtain ⟨vs, g1, g2⟩ := ho
          exact ⟨a, vs, rfl, na, g1, subs_ok fr ih g2 c⟩
        | dct ks xs =>
          obtain ⟨kvs, g1, g2, g3⟩ := ho
          exact ⟨a, kvs, rfl, na, .inl g1, g2, subs_ok fr ih g3 c⟩
        | ins cn fs xs =>
          obtain ⟨C, dx, kvs, g1, g2, g3, g4⟩ := ho
          exact ⟨a, C, dx, kvs, rfl, g1, na, g2, g3, subs_ok fr ih g4 c⟩
theorem frz_ok (r : Hr G Φ H h) (hn : n ≤ h.length) (c : ((h.take n).map (subO (res h n 5))).all (clO n) = true) : Hr G ⟨Φ.φ.take n, Φ.ex⟩ H ((h.take n).map (subO (res h n 5))) := by
  have fr : ∀ a, Fr Φ a → Fr ⟨Φ.φ.take n, Φ.ex⟩ a := fun a f => ⟨fun z => f.1 (List.mem_of_mem_take z), f.2⟩
  refine ⟨r.nd.sublist (List.take_sublist _ _), ?_, fun a ha => ⟨fun z => (r.exs a ha).1 (List.mem_of_mem_take z), (r.exs a ha).2⟩, fun m o e => ?_⟩
  · show (Φ.φ.take n).length = _
    rw [List.length_take, List.length_map, List.length_take, r.len]
  · rw [List.getElem?_map] at e
    cases q : (h.take n)[m]? with
    | none => rw [q] at e; cases e
    | some o' =>
      rw [q] at e
      cases e
      have hm : m < n := by
        have := (List.getElem?_eq_some_iff.mp q).1
        rw [List.length_take] at this; omega
      have q' : h[m]? = some o' := by rw [List.getElem?_take_of_lt hm] at q; exact q
      obtain ⟨a, h1, ho⟩ := r.ob m o' q'
      refine ⟨a, by show (Φ.φ.take n)[m]? = some a; rw [List.getElem?_take_of_lt hm]; exact h1, ?_⟩
      have c' : clO n (subO (res h n 5) o') = true := List.all_eq_true.mp c _ (List.mem_map_of_mem (List.mem_of_getElem? q))
      cases o' with
      | tab P q =>
        obtain ⟨g0, ps, g1, g2, g3⟩ := ho
        exact ⟨g0, ps, g1, g2, fun pos cv hc => let ⟨c, e1, e2, e3⟩ := g3 pos cv hc; ⟨c, e1, fr c e2, e3⟩⟩
      | lst xs =>
        obtain ⟨vs, g1, g2⟩ := ho
        exact ⟨vs, g1, subs_ok fr (res_ok r 5) g2 c'⟩
      | dct ks xs =>
        obtain ⟨kvs, g1, g2, g3⟩ := ho
        exact ⟨kvs, g1, g2, subs_ok fr (res_ok r 5) g3 c'⟩
      | ins cn fs xs =>
        obtain ⟨C, dx, kvs, g1, g2, g3, g4⟩ := ho
        exact ⟨C, dx, kvs, g1, g2, g3, subs_ok fr (res_ok r 5) g4 c'⟩
end
section
variable {G : Gr} {Φ : Fo} {H : Hp} {h h1 : PH} {frz : Bool} {W : WX} {Q : VK}
/-- the frame is left: what is known then -/
theorem left_ext {Φ' : Fo} {H' : Hp} (r : Hr G Φ H h) (e : Ext Φ H Φ' H') : Ext Φ H ⟨Φ'.φ.take h.length, Φ'.ex⟩ H' := by
  have hl : Φ'.φ.take h.length = Φ.φ := by
    obtain ⟨t, ht⟩ := e.pre
    rw [← ht, ← r.len, List.take_left]
  refine ⟨e.exs, e.exn, by rw [hl]; exact List.prefix_rfl, fun a m n => absurd (by rw [hl] at m; exact m) n, e.keep⟩
theorem outF_ok {v : PV} (r : Hr G Φ H h) (q : okO (R G) G W Q [] Φ H (outF frz h.length v h1)) : ∀ Φ' H' u, Ext Φ H Φ' H' → Hr G Φ' H' h1 → R G Φ' H' v u → Q u H' := fun Φ' H' u e r' rv => by
  unfold outF at q
  split at q
  · exact q Φ' H' u e r' rv
  · split at q
    · rename_i c
      have c' := Bool.and_eq_true_iff.mp c
      have hn : h.length ≤ h1.length := by
        rw [← r.len, ← r'.len]
        exact e.pre.length_le
      exact q _ H' u (left_ext r e) (frz_ok r' hn c'.2) (sub_ok (Φ := Φ') (Φ' := ⟨Φ'.φ.take h.length, Φ'.ex⟩) (fun a f => ⟨fun z => f.1 (List.mem_of_mem_take z), f.2⟩) (res_ok r' 5) rv c'.1)
    · exact q.elim
theorem outX_ok {c : Str} {fs : List Str} {xs : List PV} (r : Hr G Φ H h) (q : okO (R G) G W Q [] Φ H (outX frz h.length c fs xs h1)) :
    ∀ Φ' H' C d, Ext Φ H Φ' H' → Hr G Φ' H' h1 → G.mg c = some (.ref C) → XR G Φ' H' d fs xs → W (.ref C) d [] H' := fun Φ' H' C d e r' m x => by
  unfold outX at q
  split at q
  · exact q Φ' H' C d e r' m x
  · split at q
    · rename_i cc
      have c' := Bool.and_eq_true_iff.mp cc
      have hn : h.length ≤ h1.length := by
        rw [← r.len, ← r'.len]
        exact e.pre.length_le
      have fr : ∀ a, Fr Φ' a → Fr ⟨Φ'.φ.take h.length, Φ'.ex⟩ a := fun a f => ⟨fun z => f.1 (List.mem_of_mem_take z), f.2⟩
      refine q _ H' C d (left_ext r e) (frz_ok r' hn c'.2) m ?_
      rcases x with ⟨z1, z2, z3⟩ | ⟨e', kvs, z1, z0, z2, z3, z4, z5⟩
      · subst z3; exact .inl ⟨z1, z2, rfl⟩
      · exact .inr ⟨e', kvs, z1, z0, fr _ z2, z3, z4, subs_ok fr (res_ok r' 5) z5 c'.1⟩
    · exact q.elim
end
theorem Ros.start {G : Gr} {Φ : Fo} {H : Hp} {N : List Str} {qs : List PV} {vs : List V} (rs : Rs G Φ H qs vs) : Ros G Φ H (qs.map some ++ List.replicate (N.length - qs.length) none) (start N vs) := by
  unfold L2.start
  refine ⟨by rw [List.length_append, List.length_append, List.length_map, List.length_map, List.length_replicate, List.length_replicate, rs.length], fun i p e => ?_⟩
  by_cases hi : i < qs.length
  · rw [List.getElem?_append_left (by rw [List.length_map]; exact hi), List.getElem?_map] at e
    cases q : qs[i]? with
    | none => rw [q] at e; cases e
    | some p' =>
      rw [q] at e
      cases e
      obtain ⟨v, h1, h2⟩ := rs.get q
      refine ⟨v, ?_, h2⟩
      rw [List.getElem?_append_left (by rw [List.length_map, ← rs.length]; exact hi), List.getElem?_map, h1]
      rfl
  · rw [List.getElem?_append_right (by rw [List.length_map]; omega), List.getElem?_replicate] at e
    split at e <;> cases e
section
variable {P : Program} {w : World} {K : PySem.W.Frag} {mg : Str → Option Value} {base : Heap}
/-- a def's reading, by what its body means -/
theorem def_ok {G : Gr} {N : List Str} {n : Nat} {body : SM} {frz : Bool} {vs : List V} {H : Hp} {Q : VK} {E : XK} (q : spM G n (mDef n N.length frz body) vs H Q E) :
    tsm G (fun cls d _ H => E cls d H) body { nx := fun _ H' => Q .non H', rt := Q } (start N vs) H := by
  obtain ⟨hl, qs, h, Φ, r, rs, q⟩ := q
  unfold mDef at q
  have hq : qs.length = n := by rw [rs.length]; exact hl
  rw [if_pos hq] at q
  subst hq
  refine ⟨qs.map some ++ List.replicate (N.length - qs.length) none, h, Φ, r, Ros.start rs, ?_⟩
  cases z : body (qs.map some ++ List.replicate (N.length - qs.length) none) h with
  | nx ρ h1 => rw [z] at q; exact fun Φ' H' σ' e r' _ => outF_ok r q Φ' H' .non e r' rfl
  | rt v h1 => rw [z] at q; exact fun Φ' H' u e r' rv => outF_ok r q Φ' H' u e r' rv
  | bk ρ h1 => rw [z] at q; exact q.elim
  | ct ρ h1 => rw [z] at q; exact q.elim
  | ex c fs xs ρ h1 => rw [z] at q; exact fun Φ' H' C d σ' e r' _ m x => outX_ok r q Φ' H' C d e r' m x
  | bad => rw [z] at q; exact q.elim
/-- THE RULE: a def by what its body means -/
theorem FnM.of {x qual : Str} {st : Stmt} {f : Addr} {fd : FuncData} {N ps : List Str} {k : Nat} {body : SM} (frz : Bool) (F : Fun K x qual st f fd) (S : FnScope N ps (defScope st))
    (hb : ∀ (cdv : Value) (A : Around) (outer : List Env) (s : Shared) (H : Hp) (E : XK), Room k (A.deeper (envOfC qual (defScope st) s.heap.objs.size f cdv)) →
      PSs (cxOf (L2.CX P w) P w K mg base N qual (defScope st) f cdv A outer s H E) (defBody st) (tsm ⟨K, mg⟩ (fun cls d _ H => E cls d H) body)) : FnM P w K mg base (k + 1) f fd ps (mDef ps.length N.length frz body) :=
  F.okX S (fun vs H Q E h => h.1) fun cdv A outer s H vs Q E hr h => ⟨_, hb cdv A outer s H E hr, def_ok h⟩
end
theorem FnM_bad {P : Program} {w : World} {K : PySem.W.Frag} {mg : Str → Option Value} {base : Heap} {k : Nat} {f : Addr} {fd : FuncData} {ps : List Str} : FnM P w K mg base k f fd ps (fun _ _ => .bad) :=
  ⟨fun vs H Q E h => h.1, fun A outer s H args us vs Q E _ _ _ _ h => let ⟨_, _, _, _, _, _, q⟩ := h; q.elim⟩
end Ev
/-! Ev8: sequences backwards, lists unpacked, empty dicts. -/
namespace Ev
open PySem PySem.Spec PyProof.Rows L2

/-! ### t[::-1] -/
section
variable {prog : Program} {w : World} {A : Around} {E : Value → Shared → Prop} {s : Shared}
theorem adjust_rev (n : Nat) : Builtin.Slice.sliceAdjust none none (-1) (n : Int) = ((n : Int) - 1, -1) := rfl
theorem places_rev (n : Nat) : Builtin.Slice.slicePlaces ((n : Int) - 1) (-1) (-1) = n := by
  unfold Builtin.Slice.slicePlaces
  have h1 : ¬ ((-1 : Int) > 0) := by omega
  simp only [h1, if_false, show (-(-1 : Int)) = 1 from rfl, Int.ediv_one]
  split <;> omega
theorem applied_rev {sl : Addr} {vl vu vs : Value} {n : Nat} {Q : Int × Int × Nat → Shared → Prop} (hs : s.heap.IsSliceOf sl vl vu vs) (pl : IsPart vl none) (pu : IsPart vu none) (ps : IsPart vs (some (-1)))
    (h : Q ((n : Int) - 1, -1, n) s) : wpAny (model prog w) A (Builtin.Slice.sliceApplied (.ref sl) (pure (n : Int))) Q E s := by
  obtain ⟨os, hos, hcs, hds⟩ := id hs
  unfold Builtin.Slice.sliceApplied Builtin.Slice.sliceFields
  refine wpAny_bind (wpAny_bind (wpAny_field hos hds (x := vl) rfl (wpAny_bind (wpAny_field hos hds (x := vu) rfl (wpAny_bind (wpAny_field hos hds (x := vs) rfl (wpAny_pure ?_)))))))
  refine wpAny_bind (HT.slicePart_ ps ?_)
  show wpAny _ _ (if ((-1 : Int) == 0) = true then _ else _) _ _ s
  rw [if_neg (by decide)]
  refine wpAny_bind (HT.slicePart_ pl (wpAny_bind (HT.slicePart_ pu (wpAny_bind (wpAny_pure ?_)))))
  show wpAny _ _ (match Builtin.Slice.sliceAdjust none none (-1) (n : Int) with | (lo, hi) => pure (lo, (-1 : Int), Builtin.Slice.slicePlaces lo hi (-1))) _ _ s
  rw [adjust_rev]
  show wpAny _ _ (pure ((n : Int) - 1, (-1 : Int), Builtin.Slice.slicePlaces ((n : Int) - 1) (-1) (-1))) _ _ s
  rw [places_rev]
  exact wpAny_pure h
theorem fm_congr {α β : Type} {f g : α → Option β} : ∀ {l : List α}, (∀ x, x ∈ l → f x = g x) → l.filterMap f = l.filterMap g
  | [], _ => rfl
  | x :: l, h => by
    rw [List.filterMap_cons, List.filterMap_cons, h x (List.mem_cons_self ..), fm_congr (l := l) fun y hy => h y (List.mem_cons_of_mem _ hy)]
theorem pick_rev (xs : Array Value) : ((List.range xs.size).filterMap fun (m : Nat) => xs[(((xs.size : Int) - 1) + (m : Int) * (-1)).toNat]?).toArray = xs.toList.reverse.toArray := by
  have e : (List.range xs.size).filterMap (fun (m : Nat) => xs[(((xs.size : Int) - 1) + (m : Int) * (-1)).toNat]?) = ((List.range xs.size).map fun k => xs.size - 1 - k).filterMap (xs[·]?) := by
    rw [List.filterMap_map]
    refine fm_congr fun m hm => ?_
    have := List.mem_range.mp hm
    show xs[(((xs.size : Int) - 1) + (m : Int) * (-1)).toNat]? = xs[xs.size - 1 - m]?
    congr 1
    omega
  rw [e, PySem.W.krv_range, List.filterMap_reverse, PySem.W.krv_all]
theorem getItem_rev {t sl : Addr} {items : Array Value} {vl vu vs : Value} {Q : Value → Shared → Prop} (ht : IsTup s.heap t items) (hs : s.heap.IsSliceOf sl vl vu vs) (pl : IsPart vl none) (pu : IsPart vu none) (ps : IsPart vs (some (-1)))
    (h : Q (.ref s.heap.objs.size) { s with heap := s.heap.push { cls := .type "tuple", data := .seq items.toList.reverse.toArray } }) (hsz : items.size ≤ sizeLine) : wpAny (model prog w) A (getItem (.ref t) (.ref sl)) Q E s := by
  have hfit : sizeOk (.seq items.toList.reverse.toArray) := by
    show items.toList.reverse.toArray.size ≤ sizeLine
    rw [List.size_toArray, List.length_reverse, Array.length_toList]
    exact hsz
  obtain ⟨os, hos, hcs, hds⟩ := id hs
  have hTs : s.TypeIs (.ref sl) "slice" := ⟨os, hos, hcs⟩
  unfold getItem
  try with_reducible refine wpAny_holding ?_
  first | refine wpAny_bind (wpAny_pure ?_) | skip
  refine wpAny_bind (wpAny_sequenceKey ht.typeIs (by decide) ?_)
  refine wpAny_bind (wpAny_callSpecial?_slot (name := Str.ofString "__getitem__") ht.typeIs PyProof.Rows.slot_tuple_getitem
    (wpAny_call_entry PyProof.Rows.slot_tuple_getitem ht.typeIs entry_tuple_getitem ?_ (args_tuple_getitem _ _)))
  show wpAny _ _ (Builtin.Tuple.tupleItemsOf (.ref t) >>= _) _ _ s
  refine wpAny_bind (tupleItemsOf_ ht ?_)
  refine wpAny_bind (wpAny_typeOf hTs ?_)
  rw [if_pos (by decide)]
  refine wpAny_bind (applied_rev hs pl pu ps ?_)
  have hno : ¬ ((((items.size : Int) - 1) == 0 && (-1 : Int) == 1 && items.size == items.size) = true) := by simp
  show wpAny _ _ (if ((((items.size : Int) - 1) == 0 && (-1 : Int) == 1 && items.size == items.size) = true) then _ else _) _ _ s
  rw [if_neg hno, pick_rev]
  first
    | exact wpAny_bind (m := Builtin.Tuple.tupleExact _) (wpAny_newObj_type (wpAny_pure ⟨_, rfl, wpAny_pure h⟩) hfit)
    | exact wpAny_bind (m := Builtin.Tuple.tupleExact _) (wpAny_newObj_type (wpAny_bind (wpAny_pure (wpAny_pure ⟨_, rfl, wpAny_pure h⟩))) hfit)
    | exact wpAny_bind (wpAny_bind (m := Builtin.Tuple.tupleExact _) (wpAny_newObj_type (wpAny_pure (wpAny_pure ⟨_, rfl, wpAny_pure h⟩)) hfit))
    | exact wpAny_bind (wpAny_bind (m := Builtin.Tuple.tupleExact _) (wpAny_newObj_type (wpAny_pure ⟨_, rfl, wpAny_pure h⟩) hfit))
end
section
variable {X : Cx} {W : WX} {e : Expr} {me : EM} {k : Nat} {p1 p2 p3 pos : Pos}
def tRevT (K : PySem.W.Frag) (te : TE) : TE := fun σ H Q => te σ H fun x H1 => ∃ a xs, x = .ref a ∧ SqT K H1 a xs ∧ ∀ p, H1 p = none → Q (.ref p) (upd H1 p (.tup xs.reverse))
theorem pe_revT {te : TE} (he : PE X e te) : PE X (.Subscript e (.Slice none none (some (.UnaryOp .USub (.Constant (.int 1) k p1) p2)) p3) pos) (tRevT X.K te) := by
  refine ⟨fun pins s σ H Q I h => Subscript_ (thn (he.run pins s σ H _ I h) fun v s1 ⟨x, H1, I1, r1, a, xs, ex, hx, q⟩ => ?_)⟩
  subst ex
  cases r1
  have step : L2.PO X (some (.UnaryOp .USub (.Constant (.int 1) k p1) p2)) (tPart (tUn (rU fun i => .int (-i)) (tC (.int 1)))) := po_some (pe_un un_neg pe_int)
  refine wpAny_Slice (thn (po_none.run pins s1 σ H1 (fun o H2 => o = none ∧ H2 = H1) I1 ⟨rfl, rfl⟩) fun vl s2 ⟨l, H2, I2, pl, el, e2⟩ => ?_)
  subst el e2
  refine thn (po_none.run pins s2 σ H2 (fun o H3 => o = none ∧ H3 = H2) I2 ⟨rfl, rfl⟩) fun vu s3 ⟨u, H3, I3, pu, eu, e3⟩ => ?_
  subst eu e3
  refine thn (step.run pins s3 σ H3 (fun o H4 => o = some (-1) ∧ H4 = H3) I3 ⟨1, rfl, -1, rfl, rfl, rfl⟩) fun vs s4 ⟨o, H4, I4, ps, eo, e4⟩ => ?_
  subst eo e4
  have I5 : Inv X pins σ H4 { s4 with heap := s4.heap.push { cls := .type "slice", data := .fields #[vl, vu, vs] } } := I4.kept (t' := s4.toks) fun b ob q => Heap.get?_push_of_some _ q
  obtain ⟨its, r, ht, hz⟩ := I5.tuple hx
  have hlen := r.length
  show wpAny (model X.prog X.w) X.A (subscriptTail e (.Slice none none (some (.UnaryOp .USub (.Constant (.int 1) k p1) p2)) p3) (.ref a) (.ref s4.heap.objs.size)) (EP X pins σ Q) X.xe { s4 with heap := s4.heap.push { cls := .type "slice", data := .fields #[vl, vu, vs] } }
  refine tail_any (ops := [.ref a, .ref s4.heap.objs.size]) ht.typeIs (PyProof.Rows.slot_tuple_getitem.lookup) ?_ (by with_unfolding_all rfl)
  refine getItem_rev ht (Heap.IsSliceOf.new _ vl vu vs) pl pu ps ?_ (by rw [List.size_toArray]; omega)
  refine ⟨.ref _, _, I5.laid (t' := s4.toks) (o := .tup xs.reverse) (fun b ob q => Heap.get?_push_of_some _ q) (Nat.le_refl _) ?_, rfl, q _ (I5.hok.fresh (Nat.le_refl _))⟩
  exact ⟨by rw [List.length_reverse]; exact hz, _, r.reverse, ⟨_, Heap.get?_push_size _ rfl, rfl, _, rfl⟩⟩
def mRevT (a : EM) : EM := fun ρ h => (a ρ h).bind fun p h1 => match asT p with
  | some xs => .ok (.tup xs.reverse) h1
  | none => .bad
def mRevL (b : Bool) (a : EM) : EM := fun ρ h => (a ρ h).bind fun p h1 => match asL h1 p with
  | some xs => .ok (newL b xs.reverse h1).1 (newL b xs.reverse h1).2
  | none => .bad
theorem me_revT (he : PE X e (tmE (gr X) W me)) : PE X (.Subscript e (.Slice none none (some (.UnaryOp .USub (.Constant (.int 1) k p1) p2)) p3) pos) (tmE (gr X) W (mRevT me)) :=
  PE_imp (pe_revT he) fun σ H Q ⟨ρ, h, Φ, r, rs, q⟩ => ⟨ρ, h, Φ, r, rs, okO.bind q fun p h1 Φ1 H1 x e1 r1 rp q1 => by
    split at q1
    · rename_i xs ex
      obtain ⟨a, vs, h1, h2, h3⟩ := asT_ok rp ex
      refine ⟨a, vs, h1, h2, fun n hn => ?_⟩
      obtain ⟨e', r', q'⟩ := newT_ok r1 h3.reverse hn
      exact q1 Φ1 _ _ e' r' q'
    · exact q1.elim⟩
theorem me_revL (b : Bool) (he : PE X e (tmE (gr X) W me)) : PE X (.Subscript e (.Slice none none (some (.UnaryOp .USub (.Constant (.int 1) k p1) p2)) p3) pos) (tmE (gr X) W (mRevL b me)) :=
  PE_imp (pe_revL he) fun σ H Q ⟨ρ, h, Φ, r, rs, q⟩ => ⟨ρ, h, Φ, r, rs, okO.bind q fun p h1 Φ1 H1 x e1 r1 rp q1 => by
    split at q1
    · rename_i xs ex
      obtain ⟨a, vs, h1, h2, h3⟩ := asL_ok r1 rp ex
      refine ⟨a, vs, h1, h2, fun n hn => ?_⟩
      obtain ⟨Φ', e', r', q'⟩ := newL_ok (b := b) r1 h3.reverse hn
      exact q1 Φ' _ _ e' r' q'
    · exact q1.elim⟩
end

/-! ### a, b = a list -/
def mUnl (ts : List Tg) (e : EM) : SM := fun ρ h => (e ρ h).st ρ fun p h1 => match asL h1 p with
  | some ps => match asgs ts ps ρ with
    | some ρ1 => .nx ρ1 h1
    | none => .bad
  | none => .bad
section
variable {X : Cx} {W : WX} {e : Expr} {me : EM} {pos tpos : Pos} {es : List Expr} {k : Nat} {ts : List Tg} {t : TGs}
theorem ms_unl (hc : X.calm = true) (he : PE X e (tmE (gr X) W me)) (hg : PGs X es t) (eg : t = gTgs X.K ts := by rfl) (hn : (assignEach es X.env).length = ts.length := by rfl) (hst : (assignEach es X.env).findIdx? (·.1) = none := by rfl)
    (hs : swapsWithSole [.Tuple es k tpos] e pos.line X.env = pure false := by rfl) (hw : swappedStores [.Tuple es k tpos] e X.env = pure none := by rfl)
    (h1 : (assignEach [.Tuple es k tpos] X.env).map (·.2) = [assign (.Tuple es k tpos) X.env] := by rfl) : PS X (.Assign [.Tuple es k tpos] e pos) (tsm (gr X) W (mUnl ts me)) := by
  subst eg
  refine PS_imp (ps_asg he (pg_unl hc hg hn hst) hs hw h1) fun D σ H ⟨ρ, h, Φ, r, rs, q⟩ => ⟨ρ, h, Φ, r, rs, okS.st rs q fun p h1 Φ1 H1 x e1 r1 rp q1 => ?_⟩
  split at q1
  · rename_i ps ep
    obtain ⟨a, vs, rfl, h2, h3⟩ := asL_ok r1 rp ep
    split at q1
    · rename_i ρ1 e2
      exact ⟨a, vs, rfl, h2, by rw [← h3.length]; exact asgs_len e2, asgs_ok (G := gr X) e2 h3 (rs.ext e1) fun σ' rs' _ => q1 Φ1 H1 σ' .refl r1 rs'⟩
    · exact q1.elim
  · exact q1.elim
end
end Ev
/-! Ev9: several except clauses, each with `as`; the caught error's field; isinstance of it. -/
namespace Ev
open PySem PySem.Spec PyProof.Rows L2
abbrev Cl := Addr → Value → Option Addr → TS
/-- behind the suite the clause's name is gone -/
abbrev gone (D : Ends) (i : Nat) : Ends := { nx := fun τ J => D.nx (τ.set i none) J, rt := D.rt, bk := fun τ J => D.bk (τ.set i none) J, ct := fun τ J => D.ct (τ.set i none) J }
abbrev goneO (D : Ends) : Option Nat → Ends
  | some i => gone D i
  | none => D
abbrev setO (σ : Sl) (v : V) : Option Nat → Sl
  | some i => σ.set i (some v)
  | none => σ
/-- what the clauses wish, one after the other -/
def wAll (K : PySem.W.Frag) (Wo : WX) (D : Ends) : List (Value × Option Nat × Cl) → WX
  | [] => Wo
  | z :: r => fun cls d σ H => ∃ b, PySem.W.exmOne K cls z.1 = some b ∧ (b = true → ∀ a, H a = none → z.2.2 a cls d (goneO D z.2.1) (setO σ (.ref a) z.2.1) H) ∧ (b = false → wAll K Wo D r cls d σ H)
inductive Clauses (X : Cx) : List ExceptHandler → List (Value × Option Nat × Cl) → Prop
  | nil : Clauses X [] []
  | cons {x n : Str} {c : Value} {i : Nat} {ts : Cl} {st : Stmt} {sts : List Stmt} {np hp : Pos} {hds : List ExceptHandler} {l : List (Value × Option Nat × Cl)} (hc : Names X x c) (hi : X.N[i]? = some n) (hk : X.env.kindOf n = some .local)
      (hsu : ∀ (a : Addr) (oe : Obj) (cls : Value) (d : Option Addr) (pn : List (Addr × Obj)), Zc cls d oe → (∃ vs, oe.data = .fields vs) → PSs (X.suite a ((a, oe) :: pn)) (st :: sts) (ts a cls d)) (r : Clauses X hds l) :
      Clauses X (.ExceptHandler (some (.Name x np)) (some n) (st :: sts) hp :: hds) ((c, some i, ts) :: l)
  | bare {x : Str} {c : Value} {ts : Cl} {st : Stmt} {sts : List Stmt} {np hp : Pos} {hds : List ExceptHandler} {l : List (Value × Option Nat × Cl)} (hc : Names X x c)
      (hsu : ∀ (a : Addr) (oe : Obj) (cls : Value) (d : Option Addr) (pn : List (Addr × Obj)), Zc cls d oe → (∃ vs, oe.data = .fields vs) → PSs (X.suite a ((a, oe) :: pn)) (st :: sts) (ts a cls d)) (r : Clauses X hds l) :
      Clauses X (.ExceptHandler (some (.Name x np)) none (st :: sts) hp :: hds) ((c, none, ts) :: l)
section
variable {X : Cx} {body : List Stmt} {h0 : ExceptHandler} {hds : List ExceptHandler} {l : List (Value × Option Nat × Cl)} {pos : Pos} {tb : WX → TS} {Wo : WX}
theorem ps_try_all (st : X.stack = X.env :: X.outer) (fr : X.env.frame = some X.env.locals) (nd : X.N.Nodup) (tk : Takes X Wo)
    (hb : ∀ (W : WX) (pn : List (Addr × Obj)) (xe : Value → Shared → Prop), Takes (X.tr pn xe) W → PassesOwn (model X.prog X.w) X.A X.env xe → PSs (X.tr pn xe) body (tb W))
    (hh : Clauses X (h0 :: hds) l) : PS X (.Try body (h0 :: hds) [] [] pos) (fun D σ H => tb (wAll X.K Wo D l) D σ H) := by
  refine ⟨fun pins s σ H D I go => wpAny_Try_except ?_⟩
  have ok := I.ok
  have afr : X.A.frames = some (X.env :: X.outer) := ok.frames.trans (congrArg some st)
  refine wpAny_mono ((hb (wAll X.K Wo D l) (X.pn ++ pins) (fun e s1 => wpAny (model X.prog X.w) X.A (noteFrame e X.env) (fun _ s2 => wpAny (model X.prog X.w) X.A (setFlight e none) (fun _ s3 => wpAny (model X.prog X.w) X.A (handleBy e X.env (h0 :: hds)) (SP X pins D) X.xe s3) X.xe s2) X.xe s1)
    (fun u t xx => ?_) PassesOwn.looking).run [] s σ H D (I.toTry _) go) (fun f t hsp => ?_) (fun e t he => he)
  · obtain ⟨a, B, sI, pins', σ1, H1, cls, d, rfl, J0, nb, up, sky, na, os, ag, w⟩ := xx
    have J : Inv X pins σ1 H1 sI := J0.ofTry ok
    have sk : Sky B (X.env :: X.outer) a (Zc cls d) X.env.locals t.heap := st ▸ sky
    show wpAny _ X.A (noteFrame (.ref a) X.env) _ _ t
    refine Sky.land Zc.steady afr fr sk fun h3 fl up3 => ?_
    have J3 : Inv X pins σ1 H1 { t with heap := h3 } := J.landed nb fl.1 (up.trans up3) os ag
    obtain ⟨oe, vs, he, hz, hd⟩ := fl.there
    have nfr : a ∉ frs (X.env :: X.outer) := fun m => by
      obtain ⟨_, o1, q1, q2⟩ := fl.2.2.1.mem m
      rw [he] at q1
      exact q2 vs (by cases q1; exact hd)
    have nL : a ≠ X.env.locals := fun z => nfr (List.mem_filterMap.mpr ⟨X.env, List.mem_cons_self, by rw [fr, z]⟩)
    have nF : a ∉ X.fs := fun m => let ⟨e, q1, q2⟩ := List.mem_filterMap.mp m; nfr (List.mem_filterMap.mpr ⟨e, List.mem_cons_of_mem _ q1, q2⟩)
    have S3 := J3.suite he hd na nL nF
    have walk : ∀ {hs2 : List ExceptHandler} {l2 : List (Value × Option Nat × Cl)}, Clauses X hs2 l2 → wAll X.K Wo D l2 cls d σ1 H1 → wpAny (model X.prog X.w) X.A (handleBy (.ref a) X.env hs2) (SP X pins D) X.xe { t with heap := h3 } := by
      intro hs2 l2 hk
      induction hk with
      | nil =>
        refine fun w => wpAny_handleBy_nil ?_
        obtain ⟨k1, k2, k3, o2, v2, T, oT, t2, q1, q2, q3, q4, q5⟩ := id fl
        unfold PySem.passOn
        refine wpAny_bind (wpAny_field q1 q3 q4 ?_)
        rw [if_neg (show ¬ ((Value.ref T == Value.none) = true) from by simp)]
        have fin : wpAny (model X.prog X.w) X.A (setFlight (.ref a) X.env.frame) (fun _ s4 => wpAny (model X.prog X.w) X.A (throw (.ref a) : Sem Flow) (SP X pins D) X.xe s4) X.xe { t with heap := h3 } := by
          rw [fr]
          exact HandSPX.setFlight_upZ fl fun h4 k4 up4 => wpAny_throw (tk _ _ ⟨a, B, sI, pins, σ1, H1, cls, d, rfl, J, nb, (up.trans up3).trans up4, .inr (.inr (by rw [st]; exact k4)), na, os, ag, w⟩)
        first
          | exact wpAny_bind (wpAny_pure (wpAny_bind fin))
          | exact wpAny_bind fin
      | @cons x n c i ts s0 sts np hp hd2 l3 hc hi hkd hsu r ih =>
        rintro ⟨b, hb1, yes, no⟩
        refine wpAny_handleBy_cons (codeAny_handlers_test ?_) (by intro q; cases q)
        have LT : PySem.W.Looks (model X.prog X.w) h3 (typeOf (.ref a)) cls := fun A Q E s k q => wpAny_typeOf_ref (k _ _ he) (by rw [hz.1]; exact q)
        have LM := PySem.W.exm_one (M := model X.prog X.w) J3.kIn LT hb1
        have test : ∀ {Q : Value → Shared → Prop} {E : Value → Shared → Prop}, Q c { t with heap := h3 } → wpAny (model X.prog X.w) (X.A.mark (some (.ref a))) (eval (.Name x np) X.env) Q E { t with heap := h3 } := fun {Q E} q => by
          rcases hc with ⟨hg, hdb, hm | ⟨hm, hv, hn⟩⟩
          · exact ld_glob (X := X.suite a ((a, oe) :: (X.pn ++ pins))) S3 hg hm q hdb
          · exact ld_blt (X := X.suite a ((a, oe) :: (X.pn ++ pins))) S3 hg hm hv q hn hdb
        refine test (LM.here ?_)
        cases b with
        | false => exact ih (no rfl)
        | true =>
          refine codeAny_handlers_suite_as (HandSPX.lands_againZ fl fun h4 fl4 up4 => ?_)
          have J4 : Inv X pins σ1 H1 { t with heap := h4 } := J.landed nb fl4.1 ((up.trans up3).trans up4) os ag
          obtain ⟨o4, v4, he4, hz4, hd4⟩ := fl4.there
          refine store_ok (X := X.suite a ((a, o4) :: (X.pn ++ pins))) (v := .ref a) (J4.suite he4 hd4 na nL nF) nd hi (.inl hkd) rfl (fun s5 S5 => ?_) (.inr hkd)
          refine wpAny_mono ((hsu a o4 cls d (X.pn ++ pins) hz4 ⟨_, hd4⟩).run [] s5 _ H1 _ S5 (yes rfl a na)) (fun f s6 hsp => ?_) (fun _ _ z => False.elim z)
          have fin : ∀ {σ6 : Sl} {H6 : Hp} {Q : Shared → Prop}, Inv (X.suite a ((a, o4) :: (X.pn ++ pins))) [] σ6 H6 s6 → (∀ s7, Inv X pins (σ6.set i none) H6 s7 → Q s7) →
              wpAny (model X.prog X.w) X.A (do bindName X.env n .none; unbindBehindTheSuite X.env n hp) (fun _ s7 => Q s7) X.xe s6 := fun S6 hq => gone_ok (S6.unsuite ok) nd hi hkd hq
          cases f with
          | ret u =>
            obtain ⟨v6, σ6, H6, S6, r6, q6⟩ := hsp
            exact fin S6 fun s7 J7 => ⟨_, _, _, J7, r6, q6⟩
          | next => obtain ⟨σ6, H6, S6, q6⟩ := hsp; exact fin S6 fun s7 J7 => ⟨_, _, J7, q6⟩
          | brk => obtain ⟨σ6, H6, S6, q6⟩ := hsp; exact fin S6 fun s7 J7 => ⟨_, _, J7, q6⟩
          | cont => obtain ⟨σ6, H6, S6, q6⟩ := hsp; exact fin S6 fun s7 J7 => ⟨_, _, J7, q6⟩
      | @bare x c ts s0 sts np hp hd2 l3 hc hsu r ih =>
        rintro ⟨b, hb1, yes, no⟩
        refine wpAny_handleBy_cons (codeAny_handlers_test ?_) (by intro q; cases q)
        have LT : PySem.W.Looks (model X.prog X.w) h3 (typeOf (.ref a)) cls := fun A Q E s k q => wpAny_typeOf_ref (k _ _ he) (by rw [hz.1]; exact q)
        have LM := PySem.W.exm_one (M := model X.prog X.w) J3.kIn LT hb1
        have test : ∀ {Q : Value → Shared → Prop} {E : Value → Shared → Prop}, Q c { t with heap := h3 } → wpAny (model X.prog X.w) (X.A.mark (some (.ref a))) (eval (.Name x np) X.env) Q E { t with heap := h3 } := fun {Q E} q => by
          rcases hc with ⟨hg, hdb, hm | ⟨hm, hv, hn⟩⟩
          · exact ld_glob (X := X.suite a ((a, oe) :: (X.pn ++ pins))) S3 hg hm q hdb
          · exact ld_blt (X := X.suite a ((a, oe) :: (X.pn ++ pins))) S3 hg hm hv q hn hdb
        refine test (LM.here ?_)
        cases b with
        | false => exact ih (no rfl)
        | true =>
          refine codeAny_handlers_suite (HandSPX.lands_againZ fl fun h4 fl4 up4 => ?_)
          have J4 : Inv X pins σ1 H1 { t with heap := h4 } := J.landed nb fl4.1 ((up.trans up3).trans up4) os ag
          obtain ⟨o4, v4, he4, hz4, hd4⟩ := fl4.there
          refine wpAny_mono ((hsu a o4 cls d (X.pn ++ pins) hz4 ⟨_, hd4⟩).run [] _ _ H1 _ (J4.suite he4 hd4 na nL nF) (yes rfl a na)) (fun f s6 hsp => ?_) (fun _ _ z => False.elim z)
          cases f with
          | ret u => obtain ⟨v6, σ6, H6, S6, r6, q6⟩ := hsp; exact ⟨_, _, _, S6.unsuite ok, r6, q6⟩
          | next => obtain ⟨σ6, H6, S6, q6⟩ := hsp; exact ⟨_, _, S6.unsuite ok, q6⟩
          | brk => obtain ⟨σ6, H6, S6, q6⟩ := hsp; exact ⟨_, _, S6.unsuite ok, q6⟩
          | cont => obtain ⟨σ6, H6, S6, q6⟩ := hsp; exact ⟨_, _, S6.unsuite ok, q6⟩
    exact walk hh w
  · cases f with
    | ret u => obtain ⟨v, σ1, H1, J1, r, q⟩ := hsp; exact ⟨v, σ1, H1, J1.ofTry ok, r, q⟩
    | next => obtain ⟨σ1, H1, J1, q⟩ := hsp; exact wpAny_execs_nil ⟨σ1, H1, J1.ofTry ok, q⟩
    | brk => obtain ⟨σ1, H1, J1, q⟩ := hsp; exact ⟨σ1, H1, J1.ofTry ok, q⟩
    | cont => obtain ⟨σ1, H1, J1, q⟩ := hsp; exact ⟨σ1, H1, J1.ofTry ok, q⟩
end

/-! ### isinstance(e, C) of the caught error, with or without an own dict -/
section
open PySem.W PySem.Calls
variable {prog : Program} {w : World} {A : Around} {E : Value → Shared → Prop} {s : Shared} {K : Frag} {x D : Addr} {ox : Obj} {od : Option Obj}
/-- a class's data descriptor comes first, whatever the own dict holds -/
theorem obj_desc {C : Addr} {name : Str} {a g : Value} (hc : (clsIn K C).isSome = true) (ha : findIn K (.ref C) name = some (some a)) (hg : specialIn K a "__get__" = some (some g)) (ht : takesIn K a = some true) : findObj K C od name = some (.bind g a) := by
  obtain ⟨cd, e⟩ := Option.isSome_iff_exists.mp hc
  simp [findObj, e, ha, hg, ht]
/-- what an own error class must say, so that isinstance asks its errors rightly: see L2.ExcC -/
theorem cls_of_err {Q : Option Value → Shared → Prop} (C : L2.ExcC K D) (X : K.In s.heap) (I : InstAt s.heap x ox D od) (h : Q (some (.ref D)) { s with toks := s.toks + 1 }) : wpAny (model prog w) A (getAttr? (.ref x) "__class__") Q E s := by
  have hf : findObj K D od "__class__" = some (.bind (.builtin "getset_descriptor.__get__") (.builtin "object.__class__")) := obj_desc (by obtain ⟨cd, hc, _⟩ := any_some C.hd; rw [hc]; rfl) C.ha C.hn C.ht
  obtain ⟨hp, g, d, t, os⟩ := s
  have l0 := I.type (M := model prog w)
  have l1 := looks_findIn (M := model prog w) X C.hg
  have l2 := looks_findIn (M := model prog w) X C.hk
  have l3 := looks_find (M := model prog w) X I hf
  have ls : Looks (model prog w) hp (isInstance (.ref x) (.type "BaseException")) true := l0.andThen (looks_subIn X C.hs)
  have hx2 : (Value.builtin "BaseException.__getattribute__" == Value.builtin "object.__getattribute__") = false := by decide +kernel
  have hx1 : (onTheHeap (Value.ref D) && Value.builtin "BaseException.__getattribute__" == Value.builtin "object.__getattribute__") = false := by rw [hx2]; rfl
  unfold getAttr? getAttrBy? getAttrBy
  refine wpAny_bind (wpAny_mkText (wpAny_bind (wpAny_attempt (wpAny_holding (wpAny_bind (l0.at (wpAny_bind (l1.at ?_))))))))
  show wpAny _ _ (if (onTheHeap (Value.ref D) && Value.builtin "BaseException.__getattribute__" == Value.builtin "object.__getattribute__") = true then _ else _) _ _ _
  rw [hx1, if_neg Bool.false_ne_true]
  unfold getAttrByItsOwn hookBefore
  refine wpAny_bind ?_
  rw [if_pos (show onTheHeap (Value.ref D) = true from rfl)]
  refine l2.at (wpAny_bind (wpAny_attempt (wpAny_holding ?_)))
  unfold callGetattribute
  rw [show (false && onTheHeap (Value.builtin "BaseException.__getattribute__")) = false from rfl, if_neg Bool.false_ne_true]
  unfold boundAndCalled
  rw [PySem.F.excAttr_ValueError.ga.bind (.ref x)]
  refine wpAny_bind (wpAny_pure ?_)
  show wpAny _ _ (call (.builtin "BaseException.__getattribute__") [.ref x, .str "__class__" t]) _ _ _
  refine wpAny_call (codeAny_call_builtin PySem.F.excAttr_ValueError.ga.plain PySem.F.entry_bexc_ga ?_)
  refine @check_slot (model prog w) _ _ ⟨hp, g, d, t + 1, os⟩ "BaseException.__getattribute__" "BaseException" "__getattribute__" (.ref x) [.str "__class__" t] [] _ (by decide +kernel) (by decide +kernel) ls (PySem.F.args_bexc_ga (.ref x) (.str "__class__" t)) ?_
  unfold Builtin.«object.__getattribute__»
  refine wpAny_bind (wpAny_of_eq (a := ((Value.ref x : Value), [Value.str "__class__" t])) (by first | rfl | (simp only [slotArgs]; rfl)) ?_)
  refine wpAny_bind (wpAny_pure (wpAny_bind (l0.at (wpAny_bind (l3.at ?_)))))
  show wpAny _ _ (holding [Value.builtin "object.__class__"] (call (.builtin "getset_descriptor.__get__") [.builtin "object.__class__", .ref x, .ref D]) >>= ret) _ _ _
  refine wpAny_bind (wpAny_holding (wpAny_call (class_get (s := ⟨hp, g, d, t + 1, os⟩) (ox := ox) (od := od) X I C.hm (wpAny_pure ?_))))
  show wpAny _ _ (handedOut (.ref D)) _ _ _
  rw [handedOut_of (v := .ref D) rfl]
  first
    | exact wpAny_pure (wpAny_pure h)
    | exact wpAny_pure h
    | exact wpAny_pure (wpAny_bind (wpAny_pure (wpAny_pure h)))
theorem kit_err (C : L2.ExcC K D) : KitX K (.ref x) (.ref D) (fun h => ∃ ox od, InstAt h x ox D od) := by
  have at_ : ∃ o, K.lookup D = some o ∧ ∃ c, o.data = .cls c := by
    obtain ⟨cd, hc, _⟩ := any_some C.hd
    unfold clsIn at hc
    split at hc
    · rename_i ho
      exact ⟨_, ho, _, rfl⟩
    · cases hc
  obtain ⟨o, ho, cc, hcc⟩ := at_
  refine ⟨fun M h X ⟨_, _, I⟩ => I.type, fun M h X _ A Q E s k q => ?_, fun h tp dd its n sl X htp => ?_, fun X ⟨_, _, I⟩ k => cls_of_err C X I k⟩
  · unfold isType loadHead
    refine wpAny_bind (wpAny_loadPart (k _ _ (X _ _ ho)) (wpAny_pure ?_))
    obtain ⟨oc, odd, oda, osl⟩ := o
    cases hcc
    exact q
  · refine Bool.eq_false_iff.mpr fun q => ?_
    cases Value.ref.inj (beq_iff_eq.mp q)
    have z := (X _ _ ho).symm.trans htp
    cases z
    cases hcc
end
/-- isinstance(e, c), e the error that the suite holds -/
def rErr (K : PySem.W.Frag) (D a : Addr) (d : Option Addr) : List V → Hp → VK → Prop := fun xs H Q => ∃ (c : V) (cv : Value) (b : Bool), xs = [.ref a, c] ∧ (∀ u, RelV c u → u = cv) ∧ (d = none ∨ ∃ dd kvs, d = some dd ∧ H dd = some (.xd kvs)) ∧ PySem.W.kitOne K (.ref D) cv = some b ∧ Q (.bl b) H
theorem call_err {X : Cx} {a D : Addr} {oe : Obj} {d : Option Addr} {pn : List (Addr × Obj)} (C : ExcC X.K D) (hz : Zc (.ref D) d oe) (hf : ∃ vs, oe.data = .fields vs) : CallR (X.suite a ((a, oe) :: pn)) (.builtin "isinstance") (rErr X.K D a d) := by
  intro pins s σ H xs us Q I r ⟨c, cv, b, hxs, hcv, hdd, e, q⟩
  subst hxs
  cases r with
  | cons rx rr =>
    cases rr with
    | cons rt rr =>
      cases rr
      cases rx
      cases hcv _ rt
      obtain ⟨hget, _⟩ := I.pin (a, oe) (List.mem_append_left _ List.mem_cons_self)
      obtain ⟨vs, hv⟩ := hf
      have nc : PySem.W.notCls oe = true := by unfold PySem.W.notCls; rw [hv]
      have J : ∃ ox od, PySem.W.InstAt s.heap a ox D od := by
        rcases hdd with e0 | ⟨dd, kvs, e1, e2⟩
        · exact ⟨oe, none, hget, hz.1, nc, by rw [hz.2, e0]; trivial⟩
        · have hx : ObjOk X.prog X.w H s.heap dd (.xd kvs) := I.hok dd _ e2
          obtain ⟨mA, hns, _⟩ := hx
          obtain ⟨od, ho, _⟩ := lookIn_ns hns
          exact ⟨oe, some od, hget, hz.1, nc, by rw [hz.2, e1]; exact ho⟩
      exact PySem.W.kia_one (kit_err C) I.kIn J e (fun z => nomatch z) fun tk => ⟨.bl b, H, I.kept (t' := tk) fun _ _ z => z, rfl, q⟩
end Ev
/-! Ev10: try by what it means. -/
namespace Ev
open PySem PySem.Spec PyProof.Rows L2
theorem Ros.unset {G : Gr} {Φ : Fo} {H : Hp} {ρ : Ro} {σ : Sl} (r : Ros G Φ H ρ σ) (i : Nat) : Ros G Φ H (ρ.set i none) (σ.set i none) := r.wipe [i]
def SO.gone (i : Option Nat) : SO → SO
  | .nx ρ h => .nx (i.elim ρ fun i => ρ.set i none) h
  | .bk ρ h => .bk (i.elim ρ fun i => ρ.set i none) h
  | .ct ρ h => .ct (i.elim ρ fun i => ρ.set i none) h
  | .rt v h => .rt v h
  | .ex _ _ _ _ _ => .bad
  | .bad => .bad
theorem okS.gone {G : Gr} {W : WX} {D : Ends} {Φ : Fo} {H : Hp} {o : SO} {i : Option Nat} (q : okS G W D Φ H (o.gone i)) : okS G W0 (goneO D i) Φ H o := by
  cases i with
  | none =>
    cases o with
    | nx ρ h => exact q
    | bk ρ h => exact q
    | ct ρ h => exact q
    | rt v h => exact q
    | ex c fs xs ρ h => exact q.elim
    | bad => exact q
  | some i =>
    cases o with
    | nx ρ h => exact fun Φ' H' σ' e r s => q Φ' H' _ e r (s.unset i)
    | bk ρ h => exact fun Φ' H' σ' e r s => q Φ' H' _ e r (s.unset i)
    | ct ρ h => exact fun Φ' H' σ' e r s => q Φ' H' _ e r (s.unset i)
    | rt v h => exact q
    | ex c fs xs ρ h => exact q.elim
    | bad => exact q
/-- the same, wherever the error lies -/
noncomputable def unif (f : Addr → Addr → SO) : SO := open Classical in if ∀ a d, f a d = f 0 0 then f 0 0 else .bad
theorem unif_eq {f : Addr → Addr → SO} {o : SO} (h : ∀ a d, f a d = o) : unif f = o := by
  unfold unif
  rw [if_pos fun a d => (h a d).trans (h 0 0).symm, h]
theorem unif_at {f : Addr → Addr → SO} {G : Gr} {W : WX} {D : Ends} {Φ : Fo} {H : Hp} (q : okS G W D Φ H (unif f)) (a d : Addr) : okS G W D Φ H (f a d) := by
  unfold unif at q
  split at q
  · rename_i h; rw [h a d]; exact q
  · exact q.elim
/-- a clause: which classes it takes, its name's slot, its suite by class and place of the error -/
structure CM where
  tb : List (Str × Bool)
  nm : Option Nat
  su : Str → List Str → Addr → Addr → SM
def setRo (ρ : Ro) (p : PV) : Option Nat → Ro
  | some i => ρ.set i (some p)
  | none => ρ
noncomputable def hand (c : Str) (fs : List Str) (xs : List PV) (ρ : Ro) (h : PH) : List CM → SO
  | [] => .ex c fs xs ρ h
  | z :: r => match z.tb.lookup c with
    | some true => unif fun a d => (z.su c fs a d (setRo ρ (.err a c d fs xs) z.nm) h).gone z.nm
    | some false => hand c fs xs ρ h r
    | none => .bad
noncomputable def mTry (body : SM) (cs : List CM) : SM := fun ρ h => match body ρ h with
  | .ex c fs xs ρ1 h1 => hand c fs xs ρ1 h1 cs
  | r => r
/-- the error's own dict is at dd, if it has one -/
def Dk (fs : List Str) (d : Option Addr) (dd : Addr) : Prop := (fs = [] ∧ d = none) ∨ (fs ≠ [] ∧ d = some dd)
def tsOf (X : Cx) (z : CM) : Cl := fun a cls d D σ H => ∃ c C dd fs, cls = .ref C ∧ z.tb.lookup c = some true ∧ X.mg c = some (.ref C) ∧ Dk fs d dd ∧ tsm (gr X) W0 (z.su c fs a dd) D σ H
/-- what is asked of a clause's suite -/
def SuOk (X : Cx) (z : CM) (sts : List Stmt) : Prop := ∀ (c : Str) (a : Addr) (oe : Obj) (C : Addr) (d : Option Addr) (dd : Addr) (fs : List Str) (pn : List (Addr × Obj)), z.tb.lookup c = some true → X.mg c = some (.ref C) → Zc (.ref C) d oe → (∃ vs, oe.data = .fields vs) → Dk fs d dd →
  PSs (X.suite a ((a, oe) :: pn)) sts (tsm (gr X) W0 (z.su c fs a dd))
inductive CLs (X : Cx) : List ExceptHandler → List CM → List (Value × Option Nat × Cl) → Prop
  | nil : CLs X [] [] []
  | cons {x n : Str} {cv : Value} {i : Nat} {z : CM} {st : Stmt} {sts : List Stmt} {np hp : Pos} {hds : List ExceptHandler} {zs : List CM} {l : List (Value × Option Nat × Cl)} (hc : Names X x cv) (hi : X.N[i]? = some n) (hk : X.env.kindOf n = some .local) (hz : z.nm = some i)
      (hm : ∀ (c : Str) (C : Addr) (b : Bool), z.tb.lookup c = some b → X.mg c = some (.ref C) → PySem.W.exmOne X.K (.ref C) cv = some b) (hsu : SuOk X z (st :: sts)) (r : CLs X hds zs l) : CLs X (.ExceptHandler (some (.Name x np)) (some n) (st :: sts) hp :: hds) (z :: zs) ((cv, some i, tsOf X z) :: l)
  | bare {x : Str} {cv : Value} {z : CM} {st : Stmt} {sts : List Stmt} {np hp : Pos} {hds : List ExceptHandler} {zs : List CM} {l : List (Value × Option Nat × Cl)} (hc : Names X x cv) (hz : z.nm = none)
      (hm : ∀ (c : Str) (C : Addr) (b : Bool), z.tb.lookup c = some b → X.mg c = some (.ref C) → PySem.W.exmOne X.K (.ref C) cv = some b) (hsu : SuOk X z (st :: sts)) (r : CLs X hds zs l) : CLs X (.ExceptHandler (some (.Name x np)) none (st :: sts) hp :: hds) (z :: zs) ((cv, none, tsOf X z) :: l)
theorem SuOk.run {X : Cx} {z : CM} {sts : List Stmt} (h : SuOk X z sts) (a : Addr) (oe : Obj) (cls : Value) (d : Option Addr) (pn : List (Addr × Obj)) (hz : Zc cls d oe) (hf : ∃ vs, oe.data = .fields vs) : PSs (X.suite a ((a, oe) :: pn)) sts (tsOf X z a cls d) := by
  refine ⟨fun pins s σ H D I q => ?_⟩
  obtain ⟨c, C, dd, fs, rfl, e1, e2, e3, q⟩ := q
  exact (h c a oe C d dd fs pn e1 e2 hz hf e3).run pins s σ H D I q
theorem CLs.clauses {X : Cx} : ∀ {hds : List ExceptHandler} {zs : List CM} {l : List (Value × Option Nat × Cl)}, CLs X hds zs l → Clauses X hds l := by
  intro hds zs l h
  induction h with
  | nil => exact .nil
  | cons hc hi hk hz hm hsu r ih => exact .cons hc hi hk (fun a oe cls d pn z f => hsu.run a oe cls d pn z f) ih
  | bare hc hz hm hsu r ih => exact .bare hc (fun a oe cls d pn z f => hsu.run a oe cls d pn z f) ih
theorem err_R {G : Gr} {Φ : Fo} {H : Hp} {d : Option Addr} {fs : List Str} {xs : List PV} {a : Addr} {c : Str} (x : XR G Φ H d fs xs) : ∃ dd, Dk fs d dd ∧ R G Φ H (.err a c dd fs xs) (.ref a) := by
  rcases x with ⟨h1, h2, h3⟩ | ⟨e, kvs, h1, h2, h3, h4, h5, h6⟩
  · exact ⟨0, .inl ⟨h2, h1⟩, rfl, .inl h2⟩
  · exact ⟨e, .inr ⟨h2, h1⟩, rfl, .inr ⟨kvs, h3, h4, h5, h6⟩⟩
theorem hand_ok {X : Cx} {W : WX} {D : Ends} {c : Str} {fs : List Str} {xs : List PV} {ρ : Ro} {h : PH} {Φ : Fo} {H : Hp} : ∀ {hds : List ExceptHandler} {zs : List CM} {l : List (Value × Option Nat × Cl)}, CLs X hds zs l → okS (gr X) W D Φ H (hand c fs xs ρ h zs) →
    ∀ Φ' H' C d σ', Ext Φ H Φ' H' → Hr (gr X) Φ' H' h → Ros (gr X) Φ' H' ρ σ' → X.mg c = some (.ref C) → XR (gr X) Φ' H' d fs xs → wAll X.K W D l (.ref C) d σ' H' := by
  intro hds zs l hk
  induction hk with
  | nil => exact fun q => q
  | @cons x n cv i z st sts np hp hds zs l hc hi hkd hz hm hsu r ih =>
    intro q Φ' H' C d σ' e rr rs m x
    unfold hand at q
    split at q
    · rename_i hl
      refine ⟨true, hm c C true hl m, fun _ a na => ?_, fun z => nomatch z⟩
      obtain ⟨dd, e1, re⟩ := err_R (a := a) (c := c) x
      have q1 := okS.start e (unif_at q a dd).gone
      rw [hz] at q1
      exact ⟨c, C, dd, fs, rfl, hl, m, e1, _, h, Φ', rr, rs.set i re, q1⟩
    · rename_i hl
      exact ⟨false, hm c C false hl m, (fun z => nomatch z), fun _ => ih q Φ' H' C d σ' e rr rs m x⟩
    · exact q.elim
  | @bare x cv z st sts np hp hds zs l hc hz hm hsu r ih =>
    intro q Φ' H' C d σ' e rr rs m x
    unfold hand at q
    split at q
    · rename_i hl
      refine ⟨true, hm c C true hl m, fun _ a na => ?_, fun z => nomatch z⟩
      obtain ⟨dd, e1, re⟩ := err_R (a := a) (c := c) x
      have q1 := okS.start e (unif_at q a dd).gone
      rw [hz] at q1
      exact ⟨c, C, dd, fs, rfl, hl, m, e1, _, h, Φ', rr, rs, q1⟩
    · rename_i hl
      exact ⟨false, hm c C false hl m, (fun z => nomatch z), fun _ => ih q Φ' H' C d σ' e rr rs m x⟩
    · exact q.elim
section
variable {X : Cx} {body : List Stmt} {h0 : ExceptHandler} {hds : List ExceptHandler} {l : List (Value × Option Nat × Cl)} {pos : Pos} {W : WX} {mb : SM} {zs : List CM}
theorem ms_try (st : X.stack = X.env :: X.outer) (fr : X.env.frame = some X.env.locals) (nd : X.N.Nodup) (tk : Takes X W)
    (hb : ∀ (W : WX) (pn : List (Addr × Obj)) (xe : Value → Shared → Prop), Takes (X.tr pn xe) W → PassesOwn (model X.prog X.w) X.A X.env xe → PSs (X.tr pn xe) body (tsm (gr X) W mb))
    (hh : CLs X (h0 :: hds) zs l) : PS X (.Try body (h0 :: hds) [] [] pos) (tsm (gr X) W (mTry mb zs)) := by
  refine PS_imp (ps_try_all (tb := fun W => tsm (gr X) W mb) st fr nd tk hb hh.clauses) fun D σ H ⟨ρ, h, Φ, r, rs, q⟩ => ⟨ρ, h, Φ, r, rs, ?_⟩
  unfold mTry at q
  cases z : mb ρ h with
  | ex c fs xs ρ1 h1 => rw [z] at q; exact hand_ok hh q
  | nx ρ1 h1 => rw [z] at q; exact q
  | bk ρ1 h1 => rw [z] at q; exact q
  | ct ρ1 h1 => rw [z] at q; exact q
  | rt v h1 => rw [z] at q; exact q
  | bad => rw [z] at q; exact q
end
/-! ### in a suite: the error's field, isinstance -/
section
variable {X : Cx} {W : WX} {a C : Addr} {oe : Obj} {d : Option Addr} {dd : Addr} {pn : List (Addr × Obj)} {e : Expr} {pos p : Pos} {me : EM} {c n : Str}
def look (fs : List Str) (xs : List PV) (n : Str) : Option PV := (fs.zip xs).lookup n
theorem look_ok {G : Gr} {Φ : Fo} {H : Hp} {n : Str} {x : PV} : ∀ {kvs : List (Str × V)} {fs : List Str} {xs : List PV}, kvs.map (·.1) = fs → Rs G Φ H xs (kvs.map (·.2)) → look fs xs n = some x → ∃ v, kvs.lookup n = some v ∧ R G Φ H x v
  | [], _, xs, e1, e2, e3 => by
    subst e1
    cases e3
  | (k, u) :: kvs, _, [], e1, e2, e3 => by
    cases e2
  | (k, u) :: kvs, _, y :: ys, e1, e2, e3 => by
    subst e1
    obtain ⟨v, r, h1, h2, h3⟩ := e2
    have h1' : u = v ∧ kvs.map (·.2) = r := by cases h1; exact ⟨rfl, rfl⟩
    obtain ⟨rfl, rfl⟩ := h1'
    have e3' : ((k, y) :: (kvs.map (·.1)).zip ys).lookup n = some x := e3
    rw [List.lookup_cons] at e3' ⊢
    cases hb : n == k with
    | true => rw [hb] at e3'; cases e3'; exact ⟨u, rfl, h2⟩
    | false => rw [hb] at e3'; exact look_ok rfl h3 e3'
/-- e.n, e the error that the suite holds -/
def mErrF (a dd : Addr) (fs : List Str) (n : Str) (me : EM) : EM := fun ρ h => (me ρ h).bind fun p h1 => match p with
  | .err a' _ d' fs' xs => if a' = a ∧ d' = dd ∧ fs' = fs ∧ fs ≠ [] then (match look fs xs n with
    | some v => .ok v h1
    | none => .bad) else .bad
  | _ => .bad
theorem me_errF {fs : List Str} (T : XfC X.K C) (hno : PySem.W.findIn X.K (.ref C) n = some none) (hz : Zc (.ref C) d oe) (hf : ∃ vs, oe.data = .fields vs) (hd : Dk fs d dd) (he : PE (X.suite a ((a, oe) :: pn)) e (tmE (gr X) W me)) (hb : attributeBase e n X.env (eval e X.env) = eval e X.env := by rfl) :
    PE (X.suite a ((a, oe) :: pn)) (.Attribute e n pos) (tmE (gr X) W (mErrF a dd fs n me)) := PE_imp (pe_xf T hno hz hf he hb) fun σ H Q ⟨ρ, h, Φ, r, rs, q⟩ =>
  ⟨ρ, h, Φ, r, rs, okO.bind q fun p h1 Φ1 H1 x e1 r1 rp q1 => by
    split at q1
    · rename_i a' c' d' fs' xs
      split at q1
      · rename_i hc
        obtain ⟨rfl, rfl, rfl, hn⟩ := hc
        have hd : d = some d' := hd.elim (fun z => absurd z.1 hn) fun z => z.2
        split at q1
        · rename_i v hv
          obtain ⟨h1', h2⟩ := rp
          rcases h2 with z | ⟨kvs, k1, k2, k3, k4⟩
          · exact absurd z hn
          · obtain ⟨u, hu, ru⟩ := look_ok k3 k4 hv
            exact ⟨h1', rfl, d', kvs, u, hd, k2, hu, q1 Φ1 H1 u .refl r1 ru⟩
        · exact q1.elim
      · exact q1.elim
    · exact q1.elim⟩
/-- isinstance(e, x), x a class of the program -/
def mErrI (a dd : Addr) (fs : List Str) (b : Bool) (me : EM) : EM := fun ρ h => (me ρ h).bind fun p h1 => match p with
  | .err a' _ d' fs' _ => if a' = a ∧ fs' = fs ∧ d' = dd then .ok (.bl b) h1 else .bad
  | _ => .bad
theorem me_errI {x : Str} {Cx : Addr} {fs : List Str} {b : Bool} {px : Pos} (T : ExcC X.K C) (hm : X.mg "isinstance" = none) (hmx : X.mg x = some (.ref Cx)) (hk : PySem.W.kitOne X.K (.ref C) (.ref Cx) = some b) (hz : Zc (.ref C) d oe) (hf : ∃ vs, oe.data = .fields vs) (hd : Dk fs d dd)
    (he : PE (X.suite a ((a, oe) :: pn)) e (tmE (gr X) W me)) (hgx : Gl X x := by rfl) (hdx : (x == ("__debug__" : Str)) = false := by decide) (hg : Gl X "isinstance" := by rfl)
    (hs : starEach [e, .Name x px] X.env = [(false, eval e X.env), (false, eval (.Name x px) X.env)] := by rfl) (hs2 : starEach [.Name x px] X.env = [(false, eval (.Name x px) X.env)] := by rfl) :
    PE (X.suite a ((a, oe) :: pn)) (.Call (.Name "isinstance" p) [e, .Name x px] [] pos) (tmE (gr X) W (mErrI a dd fs b me)) := by
  have hx : PE (X.suite a ((a, oe) :: pn)) (.Name x px) (tmE (gr X) W (mC (.gl x))) := me_gl (X := X.suite a ((a, oe) :: pn)) hmx hgx hdx
  refine PE_imp (pe_callB (X := X.suite a ((a, oe) :: pn)) (call_err T hz hf) hg hm (show bootBuiltins "isinstance" = some (.builtin "isinstance") by decide +kernel) (pa_cons he (pa_cons hx pa_nil hs2) hs) (by decide) (by decide) hs (by rw [show starEach [.Name x px] (X.suite a ((a, oe) :: pn)).env = _ from hs2]; rfl)) fun σ H Q ⟨ρ, h, Φ, r, rs, q⟩ => ?_
  refine ⟨ρ, h, Φ, r, rs, okO.bind q fun p h1 Φ1 H1 v e1 r1 rp q1 => ⟨ρ, h1, Φ1, r1, rs.ext e1, fun Φ2 H2 u e2 r2 ru => ?_⟩⟩
  split at q1
  · rename_i a' c' d' fs' xs
    split at q1
    · rename_i hc
      obtain ⟨rfl, rfl, rfl⟩ := hc
      obtain ⟨rfl, h2⟩ := rp
      obtain ⟨A, hA, rfl⟩ := ru
      have hA' : X.mg x = some (.ref A) := hA
      rw [hmx] at hA'
      cases hA'
      refine ⟨.ref Cx, .ref Cx, b, rfl, fun _ z => z, ?_, hk, q1 Φ2 H2 _ e2 r2 rfl⟩
      rcases hd with ⟨z1, z2⟩ | ⟨z1, z2⟩
      · exact .inl z2
      · rcases h2 with z | ⟨kvs, k1, k2, k3, k4⟩
        · exact absurd z z1
        · exact .inr ⟨d', kvs, z2, (e2.fr k1 k2).2⟩
    · exact q1.elim
  · exact q1.elim
end
theorem only_true {tb : List (Str × Bool)} {c x : Str} (h : tb.lookup c = some true) (k : tb.all (fun p => !p.2 || decide (p.1 = x)) = true) : c = x := by
  have := List.all_eq_true.mp k _ (PySem.mem_of_lookup h)
  simpa using this
theorem all_exm {K : PySem.W.Frag} {mg : Str → Option Value} {cv : Value} {tb : List (Str × Bool)} (h : ∀ p ∈ tb, ∀ C, mg p.1 = some (.ref C) → PySem.W.exmOne K (.ref C) cv = some p.2) (c : Str) (C : Addr) (b : Bool) (hl : tb.lookup c = some b)
    (hm : mg c = some (.ref C)) : PySem.W.exmOne K (.ref C) cv = some b := h (c, b) (PySem.mem_of_lookup hl) C hm
theorem exm_c {K : PySem.W.Frag} {mg : Str → Option Value} {cv : Value} {x : Str} {b : Bool} {A : Addr} {r : List (Str × Bool)} (hg : mg x = some (.ref A)) (he : PySem.W.exmOne K (.ref A) cv = some b) (h : ∀ p ∈ r, ∀ C, mg p.1 = some (.ref C) → PySem.W.exmOne K (.ref C) cv = some p.2) :
    ∀ p ∈ (x, b) :: r, ∀ C, mg p.1 = some (.ref C) → PySem.W.exmOne K (.ref C) cv = some p.2 := fun p hp C hm => by
  rcases List.mem_cons.mp hp with rfl | hp
  · cases hg.symm.trans hm
    exact he
  · exact h p hp C hm
theorem exm_n {K : PySem.W.Frag} {mg : Str → Option Value} {cv : Value} : ∀ p ∈ ([] : List (Str × Bool)), ∀ C, mg p.1 = some (.ref C) → PySem.W.exmOne K (.ref C) cv = some p.2 := fun p hp => by cases hp
end Ev
/-! Ev11: told(lambda: body): try: found = (word, call()) / clauses / return found. -/
namespace Ev
open PySem PySem.Spec PyProof.Rows L2
noncomputable def toldS (w : Str) (zs : List CM) (i n : Nat) : Out PV → SO
  | .ok p h => .nx ((List.replicate n none).set i (some (.tup [.str w, p]))) h
  | .ex c fs xs h => hand c fs xs (List.replicate n none) h zs
  | .bad => .bad
noncomputable def toldO (w : Str) (zs : List CM) (i n : Nat) (o : Out PV) : Out PV := match toldS w zs i n o with
  | .nx ρ h => mV i ρ h
  | _ => .bad
/-- what the teller makes of what it is given -/
def TTm (G : Gr) (w : Str) (zs : List CM) (i n : Nat) : (XK → Hp → VK → Prop) → Hp → VK → Prop := fun tl H Q =>
  ∃ (o : Out PV) (h : PH) (Φ : Fo), Hr G Φ H h ∧ (∀ (E : XK) (Q' : VK), okO (R G) G (fun c d _ H => E c d H) Q' [] Φ H o → tl E H Q') ∧ okO (R G) G W0 Q [] Φ H (toldO w zs i n o)
abbrev Zc0 (X : Cx) (Ng : List Str) (x : Str) (sg : Scope) (g : Addr) (cdg : Value) (s : Shared) (H : Hp) : Cx := (cxOf C8.CX0 X.prog X.w X.K X.mg X.base Ng x sg g cdg X.A X.stack s H C8.E0).nox
theorem takes_len {X : Cx} {W : WX} (tk : Takes X W) : Takes X (fun cls d σ' H' => σ'.length = X.N.length → W cls d σ' H') := fun u s' x => by
  obtain ⟨a, B, sI, pins', σ', H', cls, d, e, J, nb, up, sky, na, os, ag, w⟩ := x
  exact tk u s' ⟨a, B, sI, pins', σ', H', cls, d, e, J, nb, up, sky, na, os, ag, w J.len⟩
theorem told_gives {X : Cx} {Ng : List Str} {x q w a y : Str} {sg : Scope} {g : Addr} {cdg : Value} {i k : Nat} {j1 : Nat} {p1 p2 p3 p4 p5 p6 p7 p8 p9 : Pos} {h0 : ExceptHandler} {hds : List ExceptHandler} {zs : List CM}
    (nd : Ng.Nodup) (hy : Ng[i + 1]? = some y) (hl : Loc sg y) (hf : sg.names.lookup y = some .local) (hd : (y == ("__debug__" : Str)) = false) (hcd : (y == ("__classdict__" : Str)) = false)
    (hh : ∀ (s : Shared) (H : Hp), ∃ l, CLs (Zc0 X Ng x sg g cdg s H) (h0 :: hds) zs l)
    (hsw : ∀ (s : Shared) (H : Hp) (pn : List (Addr × Obj)) (xe : Value → Shared → Prop), swapsWith (.Tuple [.Constant (.str w) j1 p1, .Call (.Name a p2) [] [] p3] k p4) (some (.Name y p5)) p6.line ((Zc0 X Ng x sg g cdg s H).tr pn xe).env = pure false)
    (hst : ∀ (s : Shared) (H : Hp) (pn : List (Addr × Obj)) (xe : Value → Shared → Prop), starEach [.Constant (.str w) j1 p1, .Call (.Name a p2) [] [] p3] ((Zc0 X Ng x sg g cdg s H).tr pn xe).env = (false, eval (.Constant (.str w) j1 p1) ((Zc0 X Ng x sg g cdg s H).tr pn xe).env) :: starEach [.Call (.Name a p2) [] [] p3] ((Zc0 X Ng x sg g cdg s H).tr pn xe).env)
    (hst2 : ∀ (s : Shared) (H : Hp) (pn : List (Addr × Obj)) (xe : Value → Shared → Prop), starEach [.Call (.Name a p2) [] [] p3] ((Zc0 X Ng x sg g cdg s H).tr pn xe).env = (false, eval (.Call (.Name a p2) [] [] p3) ((Zc0 X Ng x sg g cdg s H).tr pn xe).env) :: starEach [] ((Zc0 X Ng x sg g cdg s H).tr pn xe).env) :
    LamX.GivesTo X Ng x sg g cdg [.Try [.Assign [.Name y p5] (.Tuple [.Constant (.str w) j1 p1, .Call (.Name a p2) [] [] p3] k p4) p6] (h0 :: hds) [] [] p7, .Return (some (.Name y p8)) p9] a q (TTm (gr X) w zs (i + 1) Ng.length) := by
  intro f c' s H Q tl act hc hT
  obtain ⟨l, hcl⟩ := hh s H
  have hv : Vis sg y := hl.elim (fun z => .inl z) fun z => .inr (.inl z)
  have nN : 0 < Ng.length := by
    have := (List.getElem?_eq_some_iff.mp hy).1
    omega
  have st0 : L2.start Ng [V.ref f] = some (.ref f) :: List.replicate (Ng.length - 1) none := rfl
  refine ⟨_, pss_cons (ps_try_all (X := Zc0 X Ng x sg g cdg s H) (l := l) (Wo := fun _ _ _ _ => False)
      (tb := fun W D σ H => ∃ E : XK, (∀ cls d σ' H', σ'.length = Ng.length → E cls d H' → W cls d σ' H') ∧ σ[0]? = some (some (.ref f)) ∧ H c' = some (LamX.CodeO c' q) ∧ tl E H (fun v H1 => 2 ≤ sizeLine ∧ ∀ p, H1 p = none → D.nx (σ.set (i + 1) (some (.ref p))) (upd H1 p (.tup [.str w, v]))))
      rfl rfl nd LamX.takes0 (fun W pn xe tk _ => ?_) hcl.clauses) (ms_one (ms_ret (W := W0) (me_v (i + 1) hy hv hd hcd))), ?_⟩
  · refine ⟨fun pins s' σ H' D I ⟨E, hW, h1, h2, h3⟩ => ?_⟩
    have hp := act (fun cls d σ' H' => σ'.length = Ng.length → W cls d σ' H') pn xe E p2 p3 (takes_len tk) fun cls d σ' H' e l => hW cls d σ' H' l e
    have hq := pss_one (ps_set (pos := p6) (pos' := p5) (i := i + 1) nd hy hl (pe_tup (x1 := k) (pos := p4) (pa_cons (pe_str (x := w) (j := j1) (pos := p1)) (pa_cons hp pa_nil (hst2 s H pn xe)) (hst s H pn xe))) (hsw s H pn xe) (.inr hf))
    exact hq.run pins s' σ H' D I ⟨h1, h2, h3⟩
  · obtain ⟨o, h, Φ, r, ht, qq⟩ := hT
    have rs0 : Ros (gr X) Φ H (List.replicate Ng.length none) (L2.start Ng [V.ref f]) := by
      refine ⟨by rw [st0]; simp; omega, fun j p e => ?_⟩
      rw [List.getElem?_replicate] at e
      split at e <;> cases e
    have len0 : i + 1 < (L2.start Ng [V.ref f]).length := by
      rw [← rs0.len, List.length_replicate]
      exact (List.getElem?_eq_some_iff.mp hy).1
    have fin : ∀ {ρ : Ro} {h1 : PH}, okO (R (gr X)) (gr X) W0 Q [] Φ H (mV (i + 1) ρ h1) → ∀ Φ' H' σ', Ext Φ H Φ' H' → Hr (gr X) Φ' H' h1 → Ros (gr X) Φ' H' ρ σ' → tsm (gr X) W0 (mRet (mV (i + 1))) { nx := fun _ H' => Q .non H', rt := Q } σ' H' := fun {ρ h1} q Φ' H' σ' e r' rs' => by
      refine ⟨ρ, h1, Φ', r', rs', ?_⟩
      unfold mRet
      cases z : mV (i + 1) ρ h1 with
      | ok v h2 => rw [z] at q; exact fun Φ2 H2 u e2 r2 rv => q Φ2 H2 u (e.trans e2) r2 rv
      | ex c fs xs h2 => rw [z] at q; exact fun Φ2 H2 C d σ2 e2 r2 _ m x => q Φ2 H2 C d (e.trans e2) r2 m x
      | bad => rw [z] at q; exact q
    refine ⟨fun cls d H' => ∀ σ', σ'.length = Ng.length → wAll X.K (fun _ _ _ _ => False) _ l cls d σ' H', fun cls d σ' H' l e => e σ' l, by rw [st0]; rfl, hc, ht _ _ ?_⟩
    unfold toldO at qq
    cases o with
    | bad => exact qq.elim
    | ok p h1 =>
      refine fun Φ' H' v e r' rv => ⟨by decide, fun pp hp => ?_⟩
      obtain ⟨n1, n2, n3⟩ := newT_ok (xs := [.str w, p]) r' (vs := [.str w, v]) ⟨_, _, rfl, rfl, _, _, rfl, rv, rfl⟩ hp
      exact fin (ρ := (List.replicate Ng.length none).set (i + 1) (some (.tup [.str w, p]))) qq Φ' _ _ (e.trans n1) n2 (((rs0.ext e).ext n1).set (i + 1) n3)
    | ex c fs xs h1 =>
      refine fun Φ' H' C d e r' m xr σ' hlen => ?_
      have rs1 : Ros (gr X) Φ' H' (List.replicate Ng.length none) σ' := by
        refine ⟨by rw [List.length_replicate, hlen], fun j p e => ?_⟩
        rw [List.getElem?_replicate] at e
        split at e <;> cases e
      refine hand_ok (X := Zc0 X Ng x sg g cdg s H) (W := fun _ _ _ _ => False) hcl (Φ := Φ) (H := H) (ρ := List.replicate Ng.length none) (h := h1) ?_ Φ' H' C d σ' e r' rs1 m xr
      have qq' : okO (R (gr X)) (gr X) W0 Q [] Φ H (match hand c fs xs (List.replicate Ng.length none) h1 zs with
        | .nx ρ h => mV (i + 1) ρ h
        | _ => .bad) := qq
      revert qq'
      generalize hand c fs xs (List.replicate Ng.length none) h1 zs = so
      intro qq'
      cases so with
      | nx ρ h2 => exact fun Φ2 H2 σ2 e2 r2 rs2 => fin qq' Φ2 H2 σ2 e2 r2 rs2
      | rt v h2 => exact qq'.elim
      | bk ρ h2 => exact qq'.elim
      | ct ρ h2 => exact qq'.elim
      | ex c fs xs ρ h2 => exact qq'.elim
      | bad => exact qq'.elim
/-! ### the call told(lambda: body) -/
def noTab : PO → Bool
  | .tab _ _ => false
  | _ => true
def tabOk (P : Addr) (q : Str) : PH → Bool
  | .tab P' q' :: r => decide (P' = P) && decide (q' = q) && r.all noTab
  | _ => false
theorem tabOk_iff {P : Addr} {q : Str} {h : PH} (e : tabOk P q h = true) : ∃ r, h = .tab P q :: r ∧ r.all noTab = true := by
  unfold tabOk at e
  split at e
  · rename_i P' q' r
    obtain ⟨e1, e2⟩ := Bool.and_eq_true_iff.mp e
    obtain ⟨e3, e4⟩ := Bool.and_eq_true_iff.mp e1
    exact ⟨r, by rw [of_decide_eq_true e3, of_decide_eq_true e4], e2⟩
  · cases e
noncomputable def mTold (P : Addr) (q w : Str) (zs : List CM) (i n : Nat) (mb : EM) : EM := fun ρ h => if tabOk P q h = true then toldO w zs i n (mb ρ h) else .bad
theorem toldO_cases (w : Str) (zs : List CM) (i n : Nat) (o : Out PV) : (∃ p h, toldO w zs i n o = .ok p h) ∨ toldO w zs i n o = .bad := by
  unfold toldO
  split
  · unfold mV
    split
    · exact .inl ⟨_, _, rfl⟩
    · exact .inr rfl
  · exact .inr rfl
theorem lam_heap {G : Gr} {Φ : Fo} {H H1 : Hp} {P : Addr} {q : Str} {rest : PH} (r : Hr G Φ H (.tab P q :: rest)) (hn : rest.all noTab = true) (eN : LamX.ExtN H H1) (T1 : LamX.Tabs [(P, q)] H1) : Ext Φ H Φ H1 ∧ Hr G Φ H1 (.tab P q :: rest) := by
  have e : Ext Φ H Φ H1 := ⟨fun _ z => z, fun _ z n _ => absurd z n, List.prefix_rfl, fun _ z n => absurd z n, fun a o _ h k => eN a o h k⟩
  have hP : Φ.φ[0]? = some P := by
    obtain ⟨a, h1, h2, _⟩ := r.ob 0 _ rfl
    rw [← h2]; exact h1
  have exs1 : ∀ a ∈ Φ.ex, a ∉ Φ.φ ∧ ∃ vs, H1 a = some (.lst vs) := fun a ha => let ⟨n, vs, q⟩ := r.exs a ha; ⟨n, vs, eN a _ q fun _ z => nomatch z⟩
  have low : ∀ (n : Nat) (o : PO), rest[n]? = some o → ∃ a, Φ.φ[n + 1]? = some a ∧ Ob G Φ H o a ∧ H1 a = H a := fun n o z => by
    obtain ⟨a, h1, h2⟩ := r.ob (n + 1) o z
    have nt := List.all_eq_true.mp hn o (List.mem_of_getElem? z)
    refine ⟨a, h1, h2, ?_⟩
    cases o with
    | tab P q => cases nt
    | lst xs => obtain ⟨vs, k, _⟩ := h2; rw [k]; exact eN a _ k fun _ z => nomatch z
    | dct ks xs => obtain ⟨vs, k, _⟩ := h2; rw [k]; exact eN a _ k fun _ z => nomatch z
    | ins c fs xs => obtain ⟨C, dx, vs, _, k, _⟩ := h2; rw [k]; exact eN a _ k fun _ z => nomatch z
  refine ⟨e, r.nd, r.len, exs1, fun n o z => ?_⟩
  cases n with
  | succ n =>
    obtain ⟨a, h1, h2, h3⟩ := low n o z
    exact ⟨a, h1, h2.mv e.mv h3⟩
  | zero =>
    cases z
    obtain ⟨ps, t1, t2, t3⟩ := T1 (P, q) List.mem_cons_self
    refine ⟨P, hP, rfl, ps, t1, t2, fun pos cv hc => ?_⟩
    obtain ⟨c, c1, c2⟩ := t3 pos cv hc
    refine ⟨c, c1, ⟨fun m => ?_, fun m => ?_⟩, c2⟩
    · obtain ⟨j, hj, ej⟩ := List.getElem_of_mem m
      have ej' : Φ.φ[j]? = some c := by rw [List.getElem?_eq_getElem hj, ej]
      cases j with
      | zero =>
        rw [hP] at ej'
        cases ej'
        rw [t1] at c2
        unfold LamX.CodeO at c2
        cases c2
      | succ j =>
        have hl : j < rest.length := by
          have := r.len
          simp at this
          omega
        obtain ⟨a, h1, h2, h3⟩ := low j rest[j] (List.getElem?_eq_getElem hl)
        rw [ej'] at h1
        cases h1
        rw [h3] at c2
        unfold LamX.CodeO at c2
        cases ho : rest[j] with
        | tab P q => rw [ho] at h2; obtain ⟨_, vs, k, _⟩ := h2; rw [k] at c2; cases c2
        | lst xs => rw [ho] at h2; obtain ⟨vs, k, _⟩ := h2; rw [k] at c2; cases c2
        | dct ks xs => rw [ho] at h2; obtain ⟨vs, k, _⟩ := h2; rw [k] at c2; cases c2
        | ins c fs xs => rw [ho] at h2; obtain ⟨C, dx, vs, _, k, _⟩ := h2; rw [k] at c2; cases c2
    · obtain ⟨_, vs, k⟩ := exs1 c m
      unfold LamX.CodeO at c2
      rw [k] at c2
      cases c2
theorem told_ok {X : Cx} {W : WX} {P : Addr} {q w : Str} {zs : List CM} {i n : Nat} {mb : EM} {σ : Sl} {H : Hp} {Q : VK} (h : tmE (gr X) W (mTold P q w zs i n mb) σ H Q) :
    LamX.tLam [(P, q)] (TTm (gr X) w zs i n) (fun E => tmE (gr X) (fun c d _ H => E c d H) mb) σ H Q := by
  obtain ⟨ρ, h, Φ, r, rs, qq⟩ := h
  unfold mTold at qq
  split at qq
  · rename_i ht
    obtain ⟨rest, rfl, hn⟩ := tabOk_iff ht
    obtain ⟨a, h1, h2, ps, h3, h4, h5⟩ := r.ob 0 _ rfl
    refine ⟨fun p hp => ?_, fun H1 eN T1 => ?_⟩
    · rw [List.mem_singleton.mp hp]
      exact ⟨ps, h2 ▸ h3, h4, fun pos cv hc => let ⟨c, c1, _, c2⟩ := h5 pos cv hc; ⟨c, c1, c2⟩⟩
    · obtain ⟨e, r1⟩ := lam_heap r hn eN T1
      refine ⟨mb ρ (.tab P q :: rest), _, Φ, r1, fun E Q' k => ⟨ρ, _, Φ, r1, rs.ext e, ?_⟩, ?_⟩
      · revert k
        generalize mb ρ (.tab P q :: rest) = o
        intro k
        cases o with
        | ok a h' => exact k
        | ex c fs xs h' => exact k
        | bad => exact k
      · rcases toldO_cases w zs i n (mb ρ (.tab P q :: rest)) with ⟨p, h', z⟩ | z
        · rw [z] at qq ⊢
          exact okO.start (o := .ok p h') e qq
        · rw [z] at qq
          exact qq.elim
  · exact qq.elim
end Ev
/-! Ev12: operators of several kinds; constants; the empty dict. -/
namespace Ev
open PySem PySem.Spec PyProof.Rows L2
section
variable {X : Cx} {W : WX} {pos : Pos}
def fAdd (b : Bool) : OpF := orF fAddI (orF fAddS (orF fAddT (fAddL b)))
theorem om_add (b : Bool) : OpM X (binaryOp .Add) (fAdd b) := om_addI.or (om_addS.or (om_addT.or (om_addL b)))
def fMul (b : Bool) : OpF := orF fMulI (fRepL b)
theorem om_mul (b : Bool) : OpM X (binaryOp .Mult) (fMul b) := om_mulI.or (om_repL b)
def fIn (neg : Bool) : OpF := orF (fInS neg) (fInQ neg)
theorem om_in : OpM X (compareOp .In) (fIn false) := om_inS.or om_inQ
theorem om_notin : OpM X (compareOp .NotIn) (fIn true) := om_notInS.or om_notInQ
theorem me_kint {x : Str} {i : Int} (hm : ∃ t, X.mg x = some (.int i t)) (hg : Gl X x := by rfl) (hd : (x == ("__debug__" : Str)) = false := by decide) : PE X (.Name x pos) (tmE (gr X) W (mC (.int i))) := by
  obtain ⟨t, h⟩ := hm; exact me_cint h hg hd
theorem me_kstr {x : Str} {i : Str} (hm : ∃ t, X.mg x = some (.str i t)) (hg : Gl X x := by rfl) (hd : (x == ("__debug__" : Str)) = false := by decide) : PE X (.Name x pos) (tmE (gr X) W (mC (.str i))) := by
  obtain ⟨t, h⟩ := hm; exact me_cstr h hg hd
def mDct0 : EM := fun _ h => .ok (.dct [] []) h
theorem me_dct0 : PE X (.Dict [] [] pos) (tmE (gr X) W mDct0) := PE_imp pe_dnewK fun σ H Q ⟨ρ, h, Φ, r, rs, q⟩ => fun p hp => by
  have e : Ext Φ H Φ (upd H p (.dK [])) := Ext.laid r hp
  exact q Φ _ _ e (r.laid hp) ⟨p, [], rfl, r.fre hp, .inl upd_same, rfl, rfl⟩
end
end Ev
/-! Ev13: the end: what the head says of defs, classes, names; the law's own promise. -/
namespace Ev
open PySem PySem.Spec PyProof.Rows L2
section
variable {K : PySem.W.Frag} {mg : Str → Option Value} {h : Heap}
theorem def_mk {x : Str} {st : Stmt} {ps : List Str} {f : Addr} {oc : Value} {od an : Option Addr} {osl : Array (Option Value)} {kV doc pm cdv ct : Value} (X : K.In h) (G : h.Ns mainGlobals mg)
    (hb : ∀ (kV doc pm : Value) (an : Option Addr) (cdv ct : Value) (us : List Value), us.length = ps.length → bindArgs (PySem.W.fnOf x x (defArgs st) (defBody st) (defScope st) .none kV doc pm an cdv ct) ⟨us, []⟩ = pure (ps.zip us))
    (a : PySem.W.nsIn K mainGlobals x = some (some (.ref f))) (l : K.lookup f = some ⟨oc, od, .func (PySem.W.fnOf x x (defArgs st) (defBody st) (defScope st) .none kV doc pm an cdv ct), osl⟩)
    (c : PySem.W.codeIn K cdv x = true) (k : PySem.W.keepIn K (.ref f) = true) : ∃ f fd, Fun K x x st f fd ∧ Binds K fd ps [] ∧ mg x = some (.ref f) :=
  have F := fun_mk (st := st) l c k
  ⟨f, _, F, F.binds hb, PySem.W.mg_of X G a⟩
theorem kint_mk {x : Str} {i : Int} {t : Tok} (X : K.In h) (G : h.Ns mainGlobals mg) (a : PySem.W.nsIn K mainGlobals x = some (some (.int i t))) : ∃ t, mg x = some (.int i t) := ⟨t, PySem.W.mg_of X G a⟩
theorem kstr_mk {x : Str} {i : Str} {t : Tok} (X : K.In h) (G : h.Ns mainGlobals mg) (a : PySem.W.nsIn K mainGlobals x = some (some (.str i t))) : ∃ t, mg x = some (.str i t) := ⟨t, PySem.W.mg_of X G a⟩
/-- a class: where it lies, and what is asked of it -/
theorem cls_mk {x : Str} {C : Addr} {Z : Addr → Prop} (X : K.In h) (G : h.Ns mainGlobals mg) (a : PySem.W.nsIn K mainGlobals x = some (some (.ref C))) (z : Z C) : ∃ C, mg x = some (.ref C) ∧ Z C := ⟨C, PySem.W.mg_of X G a, z⟩
/-- the law's own def, its code, its table -/
theorem law_mk {x : Str} {st : Stmt} {fa f c P : Addr} {oc : Value} {od an : Option Addr} {osl : Array (Option Value)} {kV doc pm ct : Value} {cd : Option Addr} {vs : Array Value} {csl : Array (Option Value)} {file : Str} {tf tg tt : Tok} {flags text : Int} {inF : Bool}
    (X : K.In h) (G : h.Ns mainGlobals mg) (hfa : mg x = some (.ref fa)) (own : LamX.OwnTab K fa h)
    (a : PySem.W.nsIn K mainGlobals x = some (some (.ref f))) (l : K.lookup f = some ⟨oc, od, .func (PySem.W.fnOf x x (defArgs st) (defBody st) (defScope st) .none kV doc pm an (.ref c) ct), osl⟩)
    (lc : K.lookup c = some ⟨.type "code", cd, .fields vs, csl⟩) (v11 : vs[11]? = some (.ref P)) (v18 : vs.getD 18 .none = .str file tf) (v7 : vs.getD 7 .none = .int flags tg) (v9 : vs.getD 9 .none = .bool inF) (v10 : vs.getD 10 .none = .int text tt) (nc : c ≠ P) (nP : K.lookup P = none)
    (hc : PySem.W.codeIn K (.ref c) x = true) (k : PySem.W.keepIn K (.ref f) = true) :
    ∃ (c P : Addr) (oc kV doc pm ct : Value) (od an : Option Addr) (osl : Array (Option Value)), K.lookup fa = some ⟨oc, od, .func (PySem.W.fnOf x x (defArgs st) (defBody st) (defScope st) .none kV doc pm an (.ref c) ct), osl⟩ ∧ PySem.W.codeIn K (.ref c) x = true ∧ PySem.W.keepIn K (.ref fa) = true ∧
      h.get? P = some { cls := .none, data := .fields #[] } ∧ K.lookup P = none ∧ PySem.W.CodeHd h c P := by
  have e := hfa.symm.trans (PySem.W.mg_of X G a)
  cases e
  have g11 : vs.getD 11 .none = .ref P := by rw [Array.getD_eq_getD_getElem?, v11]; rfl
  exact ⟨c, P, oc, kV, doc, pm, ct, od, an, osl, l, hc, k, own c P _ _ _ _ _ _ l rfl rfl lc v11, nP, _, vs, file, tf, flags, tg, inF, text, tt, X _ _ lc, rfl, rfl, v11, g11, v18, v7, v9, v10, nc⟩
end
theorem kit_mk {K : PySem.W.Frag} {C D : Addr} (h2 : PySem.W.isClsIn K D = true) (h3 : PySem.W.typeIn K (.ref D) = some (.type "type")) (h4 : PySem.W.subIn K (.ref C) (.ref D) = some true) : PySem.W.kitOne K (.ref C) (.ref D) = some true := by
  have h2' : (PySem.W.clsIn K D).isSome = true := h2
  have e2 : ((PySem.W.clsIn K D).isSome && PySem.W.typeIn K (.ref D) == some (.type "type")) = true := by rw [h2', h3]; rfl
  unfold PySem.W.kitOne
  split
  · rfl
  · show (if ((PySem.W.clsIn K D).isSome && PySem.W.typeIn K (.ref D) == some (.type "type")) = true then PySem.W.subIn K (.ref C) (.ref D) else none) = some true
    rw [if_pos e2, h4]
theorem exm_mk {K : PySem.W.Frag} {C D : Addr} {b : Bool} (h1 : PySem.W.subIn K (.ref D) (.type "BaseException") = some true) (h2 : PySem.W.isClsIn K D = true) (h3 : PySem.W.typeIn K (.ref D) = some (.type "type")) (h4 : PySem.W.subIn K (.ref C) (.ref D) = some b) : PySem.W.exmOne K (.ref C) (.ref D) = some b := by
  have h2' : (PySem.W.clsIn K D).isSome = true := h2
  have e1 : (PySem.W.subIn K (.ref D) (.type "BaseException") == some true) = true := by rw [h1]; rfl
  have e2 : ((PySem.W.clsIn K D).isSome && PySem.W.typeIn K (.ref D) == some (.type "type")) = true := by rw [h2', h3]; rfl
  unfold PySem.W.exmOne
  rw [if_pos e1]
  show (if ((PySem.W.clsIn K D).isSome && PySem.W.typeIn K (.ref D) == some (.type "type")) = true then PySem.W.subIn K (.ref C) (.ref D) else none) = some b
  rw [if_pos e2, h4]
/-- the law's promise from its mirror's answer -/
theorem lawAt {l : PySem.W.OpenLaw} {w : World} {K : PySem.W.Frag} {k n : Nat} {x pn : Str} {mg : Str → Option Value} {fa c P : Addr} {h : Heap} {st : Stmt} {kV doc pm ct : Value} {an : Option Addr} {q : Str} {m : DF}
    (hP : h.get? P = some { cls := .none, data := .fields #[] }) (nP : K.lookup P = none) (C : PySem.W.CodeHd h c P)
    (hb : ∀ (s : Shared) (u : Value), BindsTo s (PySem.W.fnOf x x (defArgs st) (defBody st) (defScope st) .none kV doc pm an (.ref c) ct) ⟨[u], []⟩ [(pn, u)])
    (hm : ∀ ns : List Int, ns.length ≤ n → ∃ h', m [.rol (ns.map PV.int)] [.tab P q] = .ok (.bl true) h')
    (hF : ∀ base : Heap, K.In base → base.Ns mainGlobals mg → LamX.TabB base mg c P → FnM l.prog w K mg base k fa (PySem.W.fnOf x x (defArgs st) (defBody st) (defScope st) .none kV doc pm an (.ref c) ct) [pn] m) : LamX.LawAtS l w K (L2.CX l.prog w) k n pn mg fa h := by
  refine ⟨_, [(c, P)], spM ⟨K, mg⟩ 1 m, fun p hp => ?_, fun p hp => ?_, fun p hp => ?_, hb, fun H a ns hl _ hT hS => ⟨rfl, ?_⟩, fun base X G T => hF base X G (T (c, P) List.mem_cons_self)⟩
  · rw [List.mem_singleton.mp hp]; exact hP
  · rw [List.mem_singleton.mp hp]; exact nP
  · rw [List.mem_singleton.mp hp]; exact C
  · obtain ⟨h', e⟩ := hm ns hl
    have tP := hT (c, P) List.mem_cons_self
    refine ⟨[.rol (ns.map PV.int)], [.tab P q], ⟨[P], []⟩, ⟨by simp, rfl, (fun a ha => by cases ha), fun m o z => ?_⟩, ?_, ?_⟩
    · cases m with
      | zero =>
        cases z
        exact ⟨P, rfl, rfl, #[], tP, trivial, fun pos cv hc => by simp [codeAmong] at hc⟩
      | succ m => cases z
    · refine ⟨_, [], rfl, ⟨a, ns.map V.int, rfl, ?_, Rs.ints ns⟩, rfl⟩
      rcases hS with hS | hS
      · refine .inl ⟨⟨fun z => ?_, fun z => by cases z⟩, hS⟩
        have ea : a = P := List.mem_singleton.mp z
        have tP' : H a = some (.tbl #[]) := by rw [ea]; exact tP
        rcases hS with hS | ⟨o, hS⟩
        · rw [hS] at tP'; cases tP'
        · rw [hS] at tP'; cases tP'
      · exact .inr hS
    · rw [e]
      exact fun Φ' H' u e r ru => ru
end Ev
set_option maxHeartbeats 0
namespace Ev
open PySem PySem.Spec PyProof.Rows L2
noncomputable def b_is_integer : SM := (mRet (mAnd (mCallB fIsi (mCons (mV 0) (mCons (mC (.ty "int")) mNil))) (mNot (mCallB fIsi (mCons (mV 0) (mCons (mC (.ty "bool")) mNil))))))
noncomputable def m_is_integer : DF := mDef 1 1 true b_is_integer
noncomputable def b_is_within : SM := (mRet (mAnd (mCall m_is_integer (mCons (mV 0) mNil)) (mCh fLe fLe (mV 1) (mV 0) (mV 2))))
noncomputable def m_is_within : DF := mDef 3 3 true b_is_within
noncomputable def b_is_pair : SM := (mRet (mAnd (mCallB fIsi (mCons (mV 0) (mCons (mC (.ty "tuple")) mNil))) (mBin fEq (mCallB fLen (mCons (mV 0) mNil)) (mC (.int 2)))))
noncomputable def m_is_pair : DF := mDef 1 1 true b_is_pair
noncomputable def b_is_step : SM := (mSeq (mIfS (tOr_ (tNot_ (tB_ (mCall m_is_pair (mCons (mV 0) mNil)))) (tOr_ (tNot_ (tB_ (mCallB fIsi (mCons (mBin fIx (mV 0) (mC (.int 0))) (mCons (mC (.ty "str")) mNil))))) (tB_ (mBin (fIn true) (mBin fIx (mV 0) (mC (.int 0))) (mTup (mCons (mC (.str "write")) (mCons (mC (.str "drop")) mNil))))))) (mRet (mC (.bl false))) mPass)
  (mRet (mCall m_is_within (mCons (mBin fIx (mV 0) (mC (.int 1))) (mCons (mC (.int 0)) (mCons (mBin fSubI (mV 1) (mC (.int 1))) mNil))))))
noncomputable def m_is_step : DF := mDef 2 2 true b_is_step
noncomputable def b_backwards : SM := (mRet (mCallB fTuple (mCons (mLc false [1, 2] (mIt (mRevT (mV 0))) (.tp [(.nm 1), (.nm 2)]) tYes_ (mTup (mCons (mIf (tB_ (mBin fEq (mV 1) (mC (.str "write")))) (mC (.str "drop")) (mC (.str "write"))) (mCons (mV 2) mNil)))) mNil)))
noncomputable def m_backwards : DF := mDef 1 3 true b_backwards
noncomputable def b_turned_back : SM := (mSeq (mIfS (tOr_ (tNot_ (tB_ (mCallB fIsi (mCons (mV 0) (mCons (mC (.ty "tuple")) mNil))))) (tB_ (mBin fGt (mCallB fLen (mCons (mV 0) mNil)) (mC (.int 2000))))) (mRaise0 "BadPlan") mPass)
  (mSeq (mIfS (tNot_ (tB_ (mCallB fAll (mCons (mLc false [1] (mIt (mV 0)) (.nm 1) tYes_ (mCall m_is_step (mCons (mV 1) (mCons (mBin (fAdd false) (mC (.int 39)) (mC (.int 1))) mNil)))) mNil)))) (mRaise0 "BadPlan") mPass)
  (mRet (mCall m_backwards (mCons (mV 0) mNil)))))
noncomputable def m_turned_back : DF := mDef 1 2 true b_turned_back
noncomputable def b_number_in : SM := (mSeq (mIfS (tOr_ (tNot_ (tB_ (mCh fLe fLe (mC (.int 1)) (mCallB fLen (mCons (mV 0) mNil)) (mC (.int 9))))) (tNot_ (tB_ (mCallB fAll (mCons (mLc false [1] (mIt (mV 0)) (.nm 1) tYes_ (mBin (fIn false) (mV 1) (mC (.str "0123456789")))) mNil))))) (mRet (mC .non)) mPass)
  (mRet (mIf (tAnd_ (tB_ (mBin fGt (mCallB fLen (mCons (mV 0) mNil)) (mC (.int 1)))) (tB_ (mBin fEq (mBin fIx (mV 0) (mC (.int 0))) (mC (.str "0"))))) (mC .non) (mCallB fInt (mCons (mV 0) mNil)))))
noncomputable def m_number_in : DF := mDef 1 2 true b_number_in
noncomputable def b_lines_in : SM := (mSeq (mIfS (tNot_ (tB_ (mCallB fIsi (mCons (mV 0) (mCons (mC (.ty "str")) mNil))))) (X_line.mRaise "BadText" (mCons (mC (.int 0)) mNil)) mPass)
  (mSeq (mAsg (.nm 1) (mMt "str" (fSplit false) (mV 0) (mCons (mC (.str "\n")) mNil)))
  (mRet (mTup (mCons (mSl (fSl false) (mV 1) mNoPart (mPart (mUn fNeg (mC (.int 1))))) (mCons (mBin fIx (mV 1) (mUn fNeg (mC (.int 1)))) mNil))))))
noncomputable def m_lines_in : DF := mDef 1 2 true b_lines_in
noncomputable def b_check_steps : SM := (mSeq (mIfS (tOr_ (tNot_ (tB_ (mCallB fIsi (mCons (mV 0) (mCons (mC (.ty "tuple")) mNil))))) (tB_ (mBin fGt (mCallB fLen (mCons (mV 0) mNil)) (mC (.int 2000))))) (mRaise0 "BadPlan") mPass)
  (mIfS (tNot_ (tB_ (mCallB fAll (mCons (mLc false [1] (mIt (mV 0)) (.nm 1) tYes_ (mCall m_is_step (mCons (mV 1) (mCons (mBin (fAdd false) (mC (.int 39)) (mC (.int 1))) mNil)))) mNil)))) (mRaise0 "BadPlan") mPass))
noncomputable def m_check_steps : DF := mDef 1 2 true b_check_steps
noncomputable def b_plan_text : SM := (mSeq (mExpr (mCall m_check_steps (mCons (mV 0) mNil)))
  (mRet (mMt "str" fJoin (mC (.str "")) (mCons (mLc false [1, 2] (mIt (mV 0)) (.tp [(.nm 1), (.nm 2)]) tYes_ (mBin (fAdd false) (mBin (fAdd false) (mBin (fAdd false) (mV 1) (mC (.str " "))) (mCallB fStr (mCons (mV 2) mNil))) (mC (.str "\n")))) mNil))))
noncomputable def m_plan_text : DF := mDef 1 3 true b_plan_text
noncomputable def b_step_in : SM := (mSeq (mAsg (.nm 1) (mMt "str" (fSplit false) (mV 0) (mCons (mC (.str " ")) mNil)))
  (mSeq (mIfS (tOr_ (tB_ (mBin fNe (mCallB fLen (mCons (mV 1) mNil)) (mC (.int 2)))) (tB_ (mBin (fIn true) (mBin fIx (mV 1) (mC (.int 0))) (mTup (mCons (mC (.str "write")) (mCons (mC (.str "drop")) mNil)))))) (mRet (mC .non)) mPass)
  (mSeq (mAsg (.nm 2) (mCall m_number_in (mCons (mBin fIx (mV 1) (mC (.int 1))) mNil)))
  (mRet (mIf (tB_ (mBin fIsN (mV 2) (mC .non))) (mC .non) (mTup (mCons (mBin fIx (mV 1) (mC (.int 0))) (mCons (mV 2) mNil))))))))
noncomputable def m_step_in : DF := mDef 1 3 true b_step_in
noncomputable def b_read_plan : SM := (mSeq (mAsg (.tp [(.nm 1), (.nm 2)]) (mCall m_lines_in (mCons (mV 0) mNil)))
  (mSeq (mAsg (.nm 3) (mLst true mNil))
  (mSeq (mFor (mItA itEnum (mCons (mV 1) mNil)) (.tp [(.nm 4), (.nm 5)]) (mSeq (mAsg (.nm 6) (mCall m_step_in (mCons (mV 5) mNil)))
  (mSeq (mIfS (tB_ (mBin fIsN (mV 6) (mC .non))) (X_line.mRaise "BadText" (mCons (mBin (fAdd false) (mV 4) (mC (.int 1))) mNil)) mPass)
  (mExpr (mMt "list" fAppend (mV 3) (mCons (mV 6) mNil))))))
  (mSeq (mIfS (tB_ (mBin fNe (mV 2) (mC (.str "")))) (X_line.mRaise "BadText" (mCons (mBin (fAdd false) (mCallB fLen (mCons (mV 1) mNil)) (mC (.int 1))) mNil)) mPass)
  (mSeq (mExpr (mCall m_check_steps (mCons (mCallB fTuple (mCons (mV 3) mNil)) mNil)))
  (mRet (mCallB fTuple (mCons (mV 3) mNil))))))))
noncomputable def m_read_plan : DF := mDef 1 7 true b_read_plan
noncomputable def b__law_mixed : SM := (mSeq (mAsg (.nm 2) (mBin fModI (mBin (fMul false) (mBin (fAdd false) (mBin (fAdd false) (mBin fModI (mCallB fInt (mCons (mV 0) mNil)) (mC (.int 2147483647))) (mBin (fMul false) (mC (.int 7919)) (mV 1))) (mC (.int 1))) (mC (.int 48271))) (mC (.int 2147483647))))
  (mSeq (mAsg (.nm 2) (mBin fModI (mBin (fMul false) (mV 2) (mBin (fAdd false) (mBin fDivI (mV 2) (mC (.int 1009))) (mC (.int 69621)))) (mC (.int 2147483647))))
  (mRet (mBin fDivI (mBin fModI (mBin (fMul false) (mV 2) (mBin (fAdd false) (mBin fDivI (mV 2) (mC (.int 2003))) (mC (.int 40692)))) (mC (.int 2147483399))) (mC (.int 16))))))
noncomputable def m__law_mixed : DF := mDef 2 3 true b__law_mixed
noncomputable def b__law_bag : SM := (mRet (mLst true (mCons (mLc false [1] (mIt (mSl (fSl false) (mV 0) mNoPart (mPart (mC (.int 63))))) (.nm 1) tYes_ (mCallB fInt (mCons (mV 1) mNil))) (mCons (mC (.int 0)) (mCons (mC (.int 0)) (mCons (mC (.int 0)) mNil))))))
noncomputable def m__law_bag : DF := mDef 1 2 false b__law_bag
noncomputable def b__law_draw : SM := (mSeq (mSetI (mV 0) (mC (.int 3)) (mBin (fAdd false) (mBin fIx (mV 0) (mC (.int 3))) (mC (.int 1))))
  (mSeq (mIfS (tB_ (mBin fGt (mBin fIx (mV 0) (mC (.int 2))) (mC (.int 0)))) (mSeq (mAsg (.nm 2) (mBin fModI (mCallB fInt (mCons (mBin fIx (mV 0) (mC (.int 2))) mNil)) (mV 1)))
  (mSeq (mSetI (mV 0) (mC (.int 2)) (mBin fDivI (mBin fIx (mV 0) (mC (.int 2))) (mV 1)))
  (mRet (mV 2)))) mPass)
  (mSeq (mAsg (.nm 3) (mBin fIx (mV 0) (mC (.int 0))))
  (mSeq (mIfS (tB_ (mBin fEq (mCallB fLen (mCons (mV 3) mNil)) (mC (.int 0)))) (mRet (mBin fModI (mCall m__law_mixed (mCons (mC (.int 0)) (mCons (mBin fIx (mV 0) (mC (.int 3))) mNil))) (mV 1))) mPass)
  (mSeq (mAsg (.nm 4) (mBin fIx (mV 0) (mC (.int 1))))
  (mSeq (mSetI (mV 0) (mC (.int 1)) (mBin (fAdd false) (mV 4) (mC (.int 1))))
  (mSeq (mAsg (.nm 5) (mBin fIx (mV 3) (mBin fModI (mCallB fInt (mCons (mV 4) mNil)) (mCallB fLen (mCons (mV 3) mNil)))))
  (mSeq (mIfS (tAnd_ (tB_ (mBin fLt (mV 4) (mCallB fLen (mCons (mV 3) mNil)))) (tB_ (mBin fGe (mCallB fAbs (mCons (mV 5) mNil)) (mBin fPowI (mC (.int 10)) (mC (.int 18)))))) (mSeq (mSetI (mV 0) (mC (.int 2)) (mBin fDivI (mCallB fAbs (mCons (mV 5) mNil)) (mV 1)))
  (mRet (mBin fModI (mCallB fInt (mCons (mCallB fAbs (mCons (mV 5) mNil)) mNil)) (mV 1)))) mPass)
  (mRet (mBin fModI (mCall m__law_mixed (mCons (mV 5) (mCons (mBin fIx (mV 0) (mC (.int 3))) mNil))) (mV 1)))))))))))
noncomputable def m__law_draw : DF := mDef 2 6 true b__law_draw
noncomputable def b__law_drawn : SM := (mSeq (mAsg (.nm 1) (mBin fIx (mLst false (mCons (mC (.int 40)) (mCons (mC (.int 40)) (mCons (mC (.int 40)) (mCons (mC (.int 47)) mNil))))) (mCall m__law_draw (mCons (mV 0) (mCons (mC (.int 4)) mNil)))))
  (mSeq (mAsg (.nm 2) (mLst true mNil))
  (mSeq (mFor (mItA itRange1 (mCons (mCall m__law_draw (mCons (mV 0) (mCons (mBin fIx (mLst false (mCons (mC (.int 4)) (mCons (mC (.int 41)) mNil))) (mCall m__law_draw (mCons (mV 0) (mCons (mC (.int 2)) mNil)))) mNil))) mNil)) (.nm 3) (mExpr (mMt "list" fAppend (mV 2) (mCons (mTup (mCons (mBin fIx (mLst false (mCons (mC (.str "write")) (mCons (mC (.str "drop")) mNil))) (mCall m__law_draw (mCons (mV 0) (mCons (mC (.int 2)) mNil)))) (mCons (mCall m__law_draw (mCons (mV 0) (mCons (mV 1) mNil))) mNil))) mNil))))
  (mSeq (mIfS (tAnd_ (tB_ (mBin fEq (mCall m__law_draw (mCons (mV 0) (mCons (mC (.int 12)) mNil))) (mC (.int 0)))) (tB_ (mBin fGt (mCallB fLen (mCons (mV 2) mNil)) (mC (.int 0))))) (mAsg (.nm 2) (mSl (fSl true) (mBin (fMul false) (mV 2) (mC (.int 2001))) mNoPart (mPart (mBin (fAdd false) (mC (.int 1999)) (mCall m__law_draw (mCons (mV 0) (mCons (mC (.int 3)) mNil))))))) mPass)
  (mRet (mCallB fTuple (mCons (mV 2) mNil)))))))
noncomputable def m__law_drawn : DF := mDef 1 4 true b__law_drawn
noncomputable def b__law_is_plan : SM := (mSeq (mIfS (tOr_ (tNot_ (tB_ (mCallB fIsi (mCons (mV 0) (mCons (mC (.ty "tuple")) mNil))))) (tB_ (mBin fGt (mCallB fLen (mCons (mV 0) mNil)) (mC (.int 2000))))) (mRet (mC (.bl false))) mPass)
  (mSeq (mFor (mIt (mV 0)) (.nm 1) (mSeq (mIfS (tOr_ (tNot_ (tB_ (mCallB fIsi (mCons (mV 1) (mCons (mC (.ty "tuple")) mNil))))) (tOr_ (tB_ (mBin fNe (mCallB fLen (mCons (mV 1) mNil)) (mC (.int 2)))) (tNot_ (tB_ (mCallB fIsi (mCons (mBin fIx (mV 1) (mC (.int 0))) (mCons (mC (.ty "str")) mNil))))))) (mRet (mC (.bl false))) mPass)
  (mSeq (mIfS (tOr_ (tNot_ (tB_ (mCallB fIsi (mCons (mBin fIx (mV 1) (mC (.int 1))) (mCons (mC (.ty "int")) mNil))))) (tOr_ (tB_ (mCallB fIsi (mCons (mBin fIx (mV 1) (mC (.int 1))) (mCons (mC (.ty "bool")) mNil)))) (tNot_ (tB_ (mCh fLe fLe (mC (.int 0)) (mBin fIx (mV 1) (mC (.int 1))) (mC (.int 39))))))) (mRet (mC (.bl false))) mPass)
  (mIfS (tAnd_ (tB_ (mBin fNe (mBin fIx (mV 1) (mC (.int 0))) (mC (.str "write")))) (tB_ (mBin fNe (mBin fIx (mV 1) (mC (.int 0))) (mC (.str "drop"))))) (mRet (mC (.bl false))) mPass))))
  (mRet (mC (.bl true)))))
noncomputable def m__law_is_plan : DF := mDef 1 2 true b__law_is_plan
noncomputable def b__law_text : SM := (mRet (mMt "str" fJoin (mC (.str "")) (mCons (mLc false [1, 2] (mIt (mV 0)) (.tp [(.nm 1), (.nm 2)]) tYes_ (mBin (fAdd false) (mBin (fAdd false) (mBin (fAdd false) (mV 1) (mC (.str " "))) (mCallB fStr (mCons (mV 2) mNil))) (mC (.str "\n")))) mNil)))
noncomputable def m__law_text : DF := mDef 1 3 true b__law_text
noncomputable def b__law_step : SM := (mSeq (mAsg (.nm 1) (mMt "str" (fSplit false) (mV 0) (mCons (mC (.str " ")) mNil)))
  (mSeq (mIfS (tOr_ (tB_ (mBin fNe (mCallB fLen (mCons (mV 1) mNil)) (mC (.int 2)))) (tB_ (mBin (fIn true) (mBin fIx (mV 1) (mC (.int 0))) (mLst false (mCons (mC (.str "write")) (mCons (mC (.str "drop")) mNil)))))) (mRet (mC .non)) mPass)
  (mSeq (mAsg (.nm 2) (mBin fIx (mV 1) (mC (.int 1))))
  (mSeq (mIfS (tOr_ (tNot_ (tB_ (mCh fLe fLe (mC (.int 1)) (mCallB fLen (mCons (mV 2) mNil)) (mC (.int 9))))) (tNot_ (tB_ (mCallB fAll (mCons (mLc false [3] (mIt (mV 2)) (.nm 3) tYes_ (mBin (fIn false) (mV 3) (mC (.str "0123456789")))) mNil))))) (mRet (mC .non)) mPass)
  (mSeq (mIfS (tAnd_ (tB_ (mBin fEq (mBin fIx (mV 2) (mC (.int 0))) (mC (.str "0")))) (tB_ (mBin fGt (mCallB fLen (mCons (mV 2) mNil)) (mC (.int 1))))) (mRet (mC .non)) mPass)
  (mRet (mTup (mCons (mBin fIx (mV 1) (mC (.int 0))) (mCons (mCallB fInt (mCons (mV 2) mNil)) mNil)))))))))
noncomputable def m__law_step : DF := mDef 1 4 true b__law_step
noncomputable def b__law_due : SM := (mSeq (mAsg (.nm 1) (mMt "str" (fSplit false) (mV 0) (mCons (mC (.str "\n")) mNil)))
  (mSeq (mAsg (.nm 2) (mLst true mNil))
  (mSeq (mFor (mItA itRange1 (mCons (mBin fSubI (mCallB fLen (mCons (mV 1) mNil)) (mC (.int 1))) mNil)) (.nm 3) (mSeq (mAsg (.nm 4) (mCall m__law_step (mCons (mBin fIx (mV 1) (mV 3)) mNil)))
  (mSeq (mIfS (tB_ (mBin fIsN (mV 4) (mC .non))) (mRet (mTup (mCons (mC (.str "text")) (mCons (mBin (fAdd false) (mV 3) (mC (.int 1))) mNil)))) mPass)
  (mExpr (mMt "list" fAppend (mV 2) (mCons (mV 4) mNil))))))
  (mSeq (mIfS (tB_ (mBin fNe (mBin fIx (mV 1) (mUn fNeg (mC (.int 1)))) (mC (.str "")))) (mRet (mTup (mCons (mC (.str "text")) (mCons (mCallB fLen (mCons (mV 1) mNil)) mNil)))) mPass)
  (mSeq (mIfS (tNot_ (tB_ (mCall m__law_is_plan (mCons (mCallB fTuple (mCons (mV 2) mNil)) mNil)))) (mRet (mTup (mCons (mC (.str "plan")) mNil))) mPass)
  (mRet (mTup (mCons (mC (.str "read")) (mCons (mCallB fTuple (mCons (mV 2) mNil)) mNil)))))))))
noncomputable def m__law_due : DF := mDef 1 5 true b__law_due
noncomputable def z0__law_told : CM := ⟨[("BadText", true), ("BadPlan", false)], (some 2), fun _ fs ea ed => (mSeq (mAsg (.nm 1) (mTup (mCons (mC (.str "text")) (mCons (mErrF ea ed fs "line" (mV 2)) mNil))))
  (mIfS (tNot_ (tB_ (mErrI ea ed fs true (mV 2)))) (mAsg (.nm 1) (mTup (mCons (mC (.str "other")) mNil))) mPass))⟩
noncomputable def z1__law_told : CM := ⟨[("BadPlan", true)], (some 2), fun _ fs ea ed => (mSeq (mAsg (.nm 1) (mTup (mCons (mC (.str "plan")) mNil)))
  (mIfS (tNot_ (tB_ (mErrI ea ed fs true (mV 2)))) (mAsg (.nm 1) (mTup (mCons (mC (.str "other")) mNil))) mPass))⟩
noncomputable def zs__law_told : List CM := [z0__law_told, z1__law_told]
noncomputable def b__law_is_same (g0 : DF) : SM := (mSeq (mIfS (tB_ (mCallB fIsi (mCons (mV 1) (mCons (mC (.ty "tuple")) mNil)))) (mSeq (mIfS (tOr_ (tNot_ (tB_ (mCallB fIsi (mCons (mV 0) (mCons (mC (.ty "tuple")) mNil))))) (tB_ (mBin fNe (mCallB fLen (mCons (mV 0) mNil)) (mCallB fLen (mCons (mV 1) mNil))))) (mRet (mC (.bl false))) mPass)
  (mRet (mCallB fAll (mCons (mLc false [2] (mItA itRange1 (mCons (mCallB fLen (mCons (mV 1) mNil)) mNil)) (.nm 2) tYes_ (mCall g0 (mCons (mBin fIx (mV 0) (mV 2)) (mCons (mBin fIx (mV 1) (mV 2)) mNil)))) mNil)))) mPass)
  (mRet (mAnd (mBin fEq (mCallB fIsi (mCons (mV 0) (mCons (mC (.ty "bool")) mNil))) (mCallB fIsi (mCons (mV 1) (mCons (mC (.ty "bool")) mNil)))) (mBin fEq (mV 0) (mV 1)))))
noncomputable def m__law_is_same : Nat → DF
  | 0 => fun _ _ => .bad
  | n + 1 => mDef 2 3 true (b__law_is_same (m__law_is_same n))
theorem len__law_is_same : ∀ (n : Nat) (qs : List PV) (h : PH), m__law_is_same n qs h ≠ .bad → qs.length = 2
  | 0, _, _, e => absurd rfl e
  | _ + 1, _, _, e => mDef_len e
noncomputable def b__law_odd : SM := (mSeq (mAsg (.nm 2) (mLst false (mCons (mTup (mCons (mC (.str "write")) (mCons (mC (.int 40)) mNil))) (mCons (mTup (mCons (mC (.str "write")) (mCons (mUn fNeg (mC (.int 1))) mNil))) (mCons (mTup (mCons (mC (.str "drop")) (mCons (mC (.bl true)) mNil))) (mCons (mTup (mCons (mC (.str "drop")) (mCons (mC .non) mNil))) (mCons (mTup (mCons (mC (.str "write")) (mCons (mC (.str "3")) mNil))) (mCons (mLst false (mCons (mC (.str "write")) (mCons (mC (.int 3)) mNil))) (mCons (mTup (mCons (mC (.str "write")) mNil)) mNil)))))))))
  (mSeq (mAsg (.nm 2) (mBin (fAdd false) (mV 2) (mLst false (mCons (mTup (mCons (mC (.str "Write")) (mCons (mC (.int 3)) mNil))) (mCons (mTup (mCons (mC (.str "calm")) (mCons (mC (.int 3)) mNil))) (mCons (mTup (mCons (mC (.int 3)) (mCons (mC (.str "write")) mNil))) (mCons (mC .non) (mCons (mC (.int 7)) (mCons (mC (.str "write 3")) (mCons (mTup (mCons (mC (.str "write")) (mCons (mC (.int 3)) (mCons (mC (.int 3)) mNil)))) mNil))))))))))
  (mSeq (mAsg (.nm 2) (mBin (fAdd false) (mV 2) (mLst false (mCons (mTup (mCons (mTup mNil) (mCons (mC (.int 3)) mNil))) (mCons (mTup (mCons (mC (.str "drop")) (mCons (mC (.int 39)) mNil))) mNil)))))
  (mSeq (mAsg (.nm 3) (mCall m__law_draw (mCons (mV 0) (mCons (mBin (fAdd false) (mCallB fLen (mCons (mV 1) mNil)) (mC (.int 1))) mNil))))
  (mSeq (mIfS (tB_ (mBin fEq (mCall m__law_draw (mCons (mV 0) (mCons (mC (.int 3)) mNil))) (mC (.int 0)))) (mRet (mBin fIx (mLst false (mCons (mCallB (fList false) (mCons (mV 1) mNil)) (mCons (mC .non) (mCons (mC (.str "write 3\n")) (mCons (mC (.int 5)) (mCons mDct0 (mCons (mTup (mCons (mV 1) (mCons (mV 1) mNil))) mNil))))))) (mCall m__law_draw (mCons (mV 0) (mCons (mC (.int 6)) mNil))))) mPass)
  (mRet (mBin (fAdd false) (mBin (fAdd false) (mSl (fSl false) (mV 1) mNoPart (mPart (mV 3))) (mTup (mCons (mBin fIx (mV 2) (mCall m__law_draw (mCons (mV 0) (mCons (mC (.int 16)) mNil)))) mNil))) (mSl (fSl false) (mV 1) (mPart (mBin (fAdd false) (mV 3) (mC (.int 1)))) mNoPart))))))))
noncomputable def m__law_odd : DF := mDef 2 4 true b__law_odd
noncomputable def b__law_spoilt : SM := (mSeq (mAsg (.nm 2) (mC (.str "0123456789 \nwritedopx-")))
  (mSeq (mAsg (.nm 3) (mBin fIx (mV 2) (mCall m__law_draw (mCons (mV 0) (mCons (mCallB fLen (mCons (mV 2) mNil)) mNil)))))
  (mSeq (mAsg (.nm 4) (mCall m__law_draw (mCons (mV 0) (mCons (mBin (fAdd false) (mCallB fLen (mCons (mV 1) mNil)) (mC (.int 1))) mNil))))
  (mSeq (mAsg (.nm 5) (mCall m__law_draw (mCons (mV 0) (mCons (mC (.int 8)) mNil))))
  (mSeq (mIfS (tB_ (mBin fLt (mV 5) (mC (.int 2)))) (mRet (mBin (fAdd false) (mBin (fAdd false) (mSl (fSl false) (mV 1) mNoPart (mPart (mV 4))) (mV 3)) (mSl (fSl false) (mV 1) (mPart (mV 4)) mNoPart))) mPass)
  (mSeq (mIfS (tB_ (mBin fLt (mV 5) (mC (.int 4)))) (mRet (mBin (fAdd false) (mSl (fSl false) (mV 1) mNoPart (mPart (mV 4))) (mSl (fSl false) (mV 1) (mPart (mBin (fAdd false) (mV 4) (mC (.int 1)))) mNoPart))) mPass)
  (mSeq (mIfS (tB_ (mBin fEq (mV 5) (mC (.int 4)))) (mRet (mBin (fAdd false) (mBin (fAdd false) (mSl (fSl false) (mV 1) mNoPart (mPart (mV 4))) (mV 3)) (mSl (fSl false) (mV 1) (mPart (mBin (fAdd false) (mV 4) (mC (.int 1)))) mNoPart))) mPass)
  (mSeq (mAsg (.nm 6) (mMt "str" (fSplit false) (mV 1) (mCons (mC (.str "\n")) mNil)))
  (mSeq (mAsg (.nm 7) (mCall m__law_draw (mCons (mV 0) (mCons (mCallB fLen (mCons (mV 6) mNil)) mNil))))
  (mSeq (mIfS (tB_ (mBin fEq (mV 5) (mC (.int 5)))) (mRet (mMt "str" fJoin (mC (.str "\n")) (mCons (mBin (fAdd false) (mSl (fSl false) (mV 6) mNoPart (mPart (mV 7))) (mSl (fSl false) (mV 6) (mPart (mBin (fAdd false) (mV 7) (mC (.int 1)))) mNoPart)) mNil))) mPass)
  (mSeq (mAsg (.nm 8) (mLst false (mCons (mC (.str "")) (mCons (mC (.str "write")) (mCons (mC (.str "drop 00")) (mCons (mC (.str "write 40")) (mCons (mC (.str "write 999999999")) (mCons (mC (.str "write 1000000000")) (mCons (mC (.str "drop 3 ")) (mCons (mC (.str " drop 3")) mNil))))))))))
  (mSeq (mAsg (.nm 8) (mBin (fAdd false) (mV 8) (mLst false (mCons (mC (.str "drop  3")) (mCons (mC (.str "Drop 3")) mNil)))))
  (mRet (mMt "str" fJoin (mC (.str "\n")) (mCons (mBin (fAdd false) (mBin (fAdd false) (mSl (fSl false) (mV 6) mNoPart (mPart (mV 7))) (mLst false (mCons (mBin fIx (mV 8) (mCall m__law_draw (mCons (mV 0) (mCons (mC (.int 10)) mNil)))) mNil))) (mSl (fSl false) (mV 6) (mPart (mV 7)) mNoPart)) mNil)))))))))))))))
noncomputable def m__law_spoilt : DF := mDef 2 9 true b__law_spoilt
noncomputable def b__law_backwards : SM := (mSeq (mAsg (.nm 1) (mSl (fSl false) (mMt "str" (fSplit false) (mV 0) (mCons (mC (.str "\n")) mNil)) mNoPart (mPart (mUn fNeg (mC (.int 1))))))
  (mSeq (mAsg (.nm 2) (mLst true mNil))
  (mSeq (mFor (mIt (mRevL false (mV 1))) (.nm 3) (mSeq (mUnl [(.nm 4), (.nm 5)] (mMt "str" (fSplit false) (mV 3) (mCons (mC (.str " ")) mNil)))
  (mExpr (mMt "list" fAppend (mV 2) (mCons (mBin (fAdd false) (mBin (fAdd false) (mBin (fAdd false) (mBin fIx (mLst false (mCons (mC (.str "write")) (mCons (mC (.str "drop")) mNil))) (mCallB fInt (mCons (mBin fEq (mV 4) (mC (.str "write"))) mNil))) (mC (.str " "))) (mV 5)) (mC (.str "\n"))) mNil)))))
  (mRet (mMt "str" fJoin (mC (.str "")) (mCons (mV 2) mNil))))))
noncomputable def m__law_backwards : DF := mDef 1 6 true b__law_backwards
def qLam : Str := ("law.<locals>." : Str) ++ "<lambda>"
noncomputable def b_law (P0 : Addr) : SM := (mSeq (mAsg (.nm 1) (mCall m__law_bag (mCons (mV 0) mNil)))
  (mSeq (mAsg (.nm 7) (mCall m__law_drawn (mCons (mV 1) mNil)))
  (mSeq (mIfS (tNot_ (tB_ (mCall m__law_is_plan (mCons (mV 7) mNil)))) (mIfS (tB_ (mBin fNe (mTold P0 qLam "read" zs__law_told 1 3 (mCall m_plan_text (mCons (mV 7) mNil))) (mTup (mCons (mC (.str "plan")) mNil)))) (mRet (mC (.bl false))) mPass) (mSeq (mAsg (.nm 2) (mCall m__law_text (mCons (mV 7) mNil)))
  (mSeq (mIfS (tOr_ (tB_ (mBin fNe (mCall m_plan_text (mCons (mV 7) mNil)) (mV 2))) (tNot_ (tB_ (mCall (m__law_is_same 5) (mCons (mCall m_read_plan (mCons (mV 2) mNil)) (mCons (mV 7) mNil)))))) (mRet (mC (.bl false))) mPass)
  (mIfS (tB_ (mBin fNe (mCall m_plan_text (mCons (mCall m_turned_back (mCons (mV 7) mNil)) mNil)) (mCall m__law_backwards (mCons (mV 2) mNil)))) (mRet (mC (.bl false))) mPass))))
  (mSeq (mFor (mItA itRange1 (mCons (mC (.int 3)) mNil)) (.nm 3) (mSeq (mAsg (.nm 9) (mCall m__law_odd (mCons (mV 1) (mCons (mV 7) mNil))))
  (mSeq (mAsg (.nm 4) (mTup (mCons (mC (.str "plan")) mNil)))
  (mSeq (mIfS (tB_ (mCall m__law_is_plan (mCons (mV 9) mNil))) (mAsg (.nm 4) (mTup (mCons (mC (.str "read")) (mCons (mCall m__law_text (mCons (mV 9) mNil)) mNil)))) mPass)
  (mIfS (tNot_ (tB_ (mCall (m__law_is_same 5) (mCons (mTold P0 qLam "read" zs__law_told 1 3 (mCall m_plan_text (mCons (mV 9) mNil))) (mCons (mV 4) mNil))))) (mRet (mC (.bl false))) mPass)))))
  (mSeq (mFor (mItA itRange1 (mCons (mC (.int 5)) mNil)) (.nm 3) (mSeq (mAsg (.nm 8) (mCall m__law_text (mCons (mSl (fSl false) (mV 7) mNoPart (mPart (mC (.int 60)))) mNil)))
  (mSeq (mIfS (tB_ (mBin fEq (mV 3) (mC (.int 0)))) (mAsg (.nm 8) (mCall m__law_text (mCons (mV 7) mNil))) mPass)
  (mSeq (mFor (mItA itRange1 (mCons (mCall m__law_draw (mCons (mV 1) (mCons (mC (.int 3)) mNil))) mNil)) (.nm 5) (mAsg (.nm 8) (mCall m__law_spoilt (mCons (mV 1) (mCons (mV 8) mNil)))))
  (mSeq (mAsg (.nm 4) (mCall m__law_due (mCons (mV 8) mNil)))
  (mSeq (mAsg (.nm 6) (mTold P0 qLam "read" zs__law_told 1 3 (mCall m_read_plan (mCons (mV 8) mNil))))
  (mIfS (tOr_ (tNot_ (tB_ (mCall (m__law_is_same 5) (mCons (mV 6) (mCons (mV 4) mNil))))) (tAnd_ (tB_ (mBin fEq (mBin fIx (mV 4) (mC (.int 0))) (mC (.str "read")))) (tB_ (mBin fNe (mCall m_plan_text (mCons (mBin fIx (mV 6) (mC (.int 1))) mNil)) (mV 8))))) (mRet (mC (.bl false))) mPass)))))))
  (mSeq (mFor (mIt (mLst false (mCons (mC .non) (mCons (mC (.int 5)) (mCons (mTup mNil) (mCons (mLst false (mCons (mC (.str "write 3\n")) mNil)) (mCons (mC (.bl true)) mNil))))))) (.nm 9) (mIfS (tNot_ (tB_ (mCall (m__law_is_same 5) (mCons (mTold P0 qLam "read" zs__law_told 1 3 (mCall m_read_plan (mCons (mV 9) mNil))) (mCons (mTup (mCons (mC (.str "text")) (mCons (mC (.int 0)) mNil))) mNil))))) (mRet (mC (.bl false))) mPass))
  (mRet (mAnd (mCall (m__law_is_same 5) (mCons (mCall m_read_plan (mCons (mC (.str "")) mNil)) (mCons (mTup mNil) mNil))) (mBin fEq (mCall m_plan_text (mCons (mTup mNil) mNil)) (mC (.str "")))))))))))
noncomputable def m_law (P0 : Addr) : DF := mDef 1 10 true (b_law P0)
end Ev
/-! P1: plain evaluation: values without references, comprehensions over pure parts, leaving a def. -/
namespace Ev
open PySem PySem.Spec PyProof.Rows L2
mutual
/-- no reference within -/
def nr : PV → Bool
  | .ref _ => false
  | .tup xs => nrs xs
  | .lst xs => nrs xs
  | .rol xs => nrs xs
  | .dct _ xs => nrs xs
  | .ins _ _ xs => nrs xs
  | .err _ _ _ _ _ => false
  | .non => true
  | .bl _ => true
  | .int _ => true
  | .str _ => true
  | .ty _ => true
  | .gl _ => true
def nrs : List PV → Bool
  | [] => true
  | p :: ps => nr p && nrs ps
end
def nrO : PO → Bool
  | .lst xs => nrs xs
  | .dct _ xs => nrs xs
  | .ins _ _ xs => nrs xs
  | .tab _ _ => true
section
variable {f : Nat → PV} {n : Nat}
mutual
theorem sub_nr : ∀ {p : PV}, nr p = true → sub f p = p
  | .ref _, h => by simp [nr] at h
  | .tup xs, h => by simp only [sub]; rw [subs_nr h]
  | .lst xs, h => by simp only [sub]; rw [subs_nr h]
  | .rol xs, h => by simp only [sub]; rw [subs_nr h]
  | .dct _ xs, h => by simp only [sub]; rw [subs_nr h]
  | .ins _ _ xs, h => by simp only [sub]; rw [subs_nr h]
  | .err _ _ _ _ _, h => by simp [nr] at h
  | .non, _ => rfl
  | .bl _, _ => rfl
  | .int _, _ => rfl
  | .str _, _ => rfl
  | .ty _, _ => rfl
  | .gl _, _ => rfl
theorem subs_nr : ∀ {p : List PV}, nrs p = true → subs f p = p
  | [], _ => rfl
  | p :: ps, h => by
    have h' := Bool.and_eq_true_iff.mp h
    simp only [subs]
    rw [sub_nr h'.1, subs_nr h'.2]
end
mutual
theorem cl_nr : ∀ {p : PV}, nr p = true → cl n p = true
  | .ref _, h => by simp [nr] at h
  | .tup xs, h => by simp only [cl]; exact cls_nr h
  | .lst xs, h => by simp only [cl]; exact cls_nr h
  | .rol xs, h => by simp only [cl]; exact cls_nr h
  | .dct _ xs, h => by simp only [cl]; exact cls_nr h
  | .ins _ _ xs, h => by simp only [cl]; exact cls_nr h
  | .err _ _ _ _ _, h => by simp [nr] at h
  | .non, _ => rfl
  | .bl _, _ => rfl
  | .int _, _ => rfl
  | .str _, _ => rfl
  | .ty _, _ => rfl
  | .gl _, _ => rfl
theorem cls_nr : ∀ {p : List PV}, nrs p = true → cls n p = true
  | [], _ => rfl
  | p :: ps, h => by
    have h' := Bool.and_eq_true_iff.mp h
    simp only [cls]
    rw [cl_nr h'.1, cls_nr h'.2]
    rfl
end
theorem subO_nr : ∀ {o : PO}, nrO o = true → subO f o = o
  | .lst xs, h => by simp only [subO]; rw [subs_nr h]
  | .dct _ xs, h => by simp only [subO]; rw [subs_nr h]
  | .ins _ _ xs, h => by simp only [subO]; rw [subs_nr h]
  | .tab _ _, _ => rfl
theorem clO_nr : ∀ {o : PO}, nrO o = true → clO n o = true
  | .lst xs, h => cls_nr h
  | .dct _ xs, h => cls_nr h
  | .ins _ _ xs, h => cls_nr h
  | .tab _ _, _ => rfl
theorem mapO_nr : ∀ {h : PH}, h.all nrO = true → h.map (subO f) = h
  | [], _ => rfl
  | o :: h, k => by
    have k' := Bool.and_eq_true_iff.mp k
    rw [List.map_cons, subO_nr k'.1, mapO_nr k'.2]
theorem allO_nr {h : PH} (k : h.all nrO = true) : h.all (clO n) = true := List.all_eq_true.mpr fun o ho => clO_nr (List.all_eq_true.mp k o ho)
end
/-- a def is left with a value without references: its own objects are dropped -/
theorem outF_nr {frz : Bool} {h e : PH} {v : PV} (hh : h.all nrO = true) (hv : nr v = true) : outF true h.length v (h ++ e) = .ok v h := by
  unfold outF
  split
  · rename_i k
    rcases k with k | k
    · have : e = [] := by
        rw [List.length_append] at k
        exact List.eq_nil_of_length_eq_zero (by omega)
      rw [this, List.append_nil]
    · cases k
  · rw [List.take_left, sub_nr hv, cl_nr hv, mapO_nr hh, allO_nr hh]
    rfl
theorem outX_nr {h e : PH} {c : Str} {fs : List Str} {xs : List PV} (hh : h.all nrO = true) (hv : nrs xs = true) : outX true h.length c fs xs (h ++ e) = .ex c fs xs h := by
  unfold outX
  split
  · rename_i k
    rcases k with k | k
    · have : e = [] := by
        rw [List.length_append] at k
        exact List.eq_nil_of_length_eq_zero (by omega)
      rw [this, List.append_nil]
    · cases k
  · rw [List.take_left, subs_nr hv, cls_nr hv, mapO_nr hh, allO_nr hh]
    rfl
theorem outF_same {frz : Bool} {h : PH} {v : PV} {n : Nat} (hn : h.length = n) : outF frz n v h = .ok v h := by
  unfold outF
  rw [if_pos (Or.inl hn)]
theorem outX_same {frz : Bool} {h : PH} {c : Str} {fs : List Str} {xs : List PV} {n : Nat} (hn : h.length = n) : outX frz n c fs xs h = .ex c fs xs h := by
  unfold outX
  rw [if_pos (Or.inl hn)]
/-- a comprehension whose parts are pure: each item gives g of it -/
theorem compL_pure {α : Type} {chk : PH → Bool} {t : Tg} {me : EM} {ρ : Ro} {h : PH} (hc : chk h = true) (i : α → PV) (g : α → PV) :
    ∀ (xs : List α) (acc : List PV), (∀ x ∈ xs, ∃ ρ1, asg t (i x) ρ = some ρ1 ∧ me ρ1 h = .ok (g x) h) → acc.length + xs.length ≤ sizeLine → compL chk t tYes_ me ρ (xs.map i) acc h = .ok (acc ++ xs.map g) h
  | [], acc, _, _ => by simp [compL, hc]
  | x :: xs, acc, hx, hl => by
    obtain ⟨ρ1, e1, e2⟩ := hx x List.mem_cons_self
    have hl' : acc.length < sizeLine := by simp at hl; omega
    simp only [List.map_cons, compL, hc, if_true, e1, tYes_, noEx, Out.bind, e2, hl']
    rw [compL_pure hc i g xs (acc ++ [g x]) (fun y hy => hx y (List.mem_cons_of_mem _ hy)) (by simp at hl ⊢; omega)]
    simp
theorem mLc_pure {α : Type} {b : Bool} {own : List Nat} {mi : IMm} {t : Tg} {me : EM} {ρ : Ro} {h : PH} {s : Its} (i : α → PV) (g : α → PV) (xs : List α) (hi : mi ρ h = .ok s h) (hs : s.items = xs.map i) (hc : s.chk h = true)
    (hx : ∀ x ∈ xs, ∃ ρ1, asg t (i x) (wipeR ρ own) = some ρ1 ∧ me ρ1 h = .ok (g x) h) (hl : xs.length ≤ sizeLine) : mLc b own mi t tYes_ me ρ h = .ok (newL b (xs.map g) h).1 (newL b (xs.map g) h).2 := by
  unfold mLc
  rw [hi]
  simp only [Out.bind]
  rw [hs, compL_pure hc i g xs [] hx (by simpa using hl)]
  rfl
/-! ### == -/
@[simp] theorem shaped_int (i : Int) : SeqAt.shaped (.int i) = true := by simp [SeqAt.shaped, PyData.canLay0, PyData.depth]
@[simp] theorem shaped_bool (i : Bool) : SeqAt.shaped (.bool i) = true := by simp [SeqAt.shaped, PyData.canLay0, PyData.depth]
@[simp] theorem shaped_none : SeqAt.shaped .none = true := by simp [SeqAt.shaped, PyData.canLay0, PyData.depth]
@[simp] theorem fEq_int (i j : Int) (h : PH) : fEq (.int i) (.int j) h = some (.bl (decide (i = j)), h) := by
  simp only [fEq, orF, fEqS, fEqD, datH, dat, shaped_int, PyData.eqv, Bool.and_self, if_true]
  rfl
@[simp] theorem fNe_int (i j : Int) (h : PH) : fNe (.int i) (.int j) h = some (.bl (!decide (i = j)), h) := by
  simp only [fNe, orF, fNeS, fNeD, datH, dat, shaped_int, PyData.eqv, Bool.and_self, if_true]
  rfl
@[simp] theorem fEq_str (i j : Str) (h : PH) : fEq (.str i) (.str j) h = some (.bl (decide (i = j)), h) := rfl
@[simp] theorem fNe_str (i j : Str) (h : PH) : fNe (.str i) (.str j) h = some (.bl (!decide (i = j)), h) := rfl
@[simp] theorem fEq_bl (i j : Bool) (h : PH) : fEq (.bl i) (.bl j) h = some (.bl (decide (i = j)), h) := by
  simp only [fEq, orF, fEqS, fEqD, datH, dat, shaped_bool, PyData.eqv, Bool.and_self, if_true]
  rfl
/-! ### the combinators, opened by simp -/
@[simp] theorem ev_bind_ok {α β : Type} (a : α) (h : PH) (k : α → PH → Out β) : (Out.ok a h).bind k = k a h := rfl
@[simp] theorem ev_bind_ex {α β : Type} (c : Str) (fs : List Str) (xs : List PV) (h : PH) (k : α → PH → Out β) : (Out.ex (α := α) c fs xs h).bind k = .ex c fs xs h := rfl
@[simp] theorem ev_st_ok {α : Type} (a : α) (h : PH) (ρ : Ro) (k : α → PH → SO) : (Out.ok a h).st ρ k = k a h := rfl
@[simp] theorem ev_st_ex {α : Type} (c : Str) (fs : List Str) (xs : List PV) (h : PH) (ρ : Ro) (k : α → PH → SO) : (Out.ex (α := α) c fs xs h).st ρ k = .ex c fs xs ρ h := rfl
@[simp] theorem ev_opt_some {α : Type} (p : α × PH) : opt (some p) = .ok p.1 p.2 := rfl
@[simp] theorem ev_asB (b : Bool) (h : PH) : asB (.bl b) h = .ok b h := rfl
@[simp] theorem ev_mC (p : PV) (ρ : Ro) (h : PH) : mC p ρ h = .ok p h := rfl
@[simp] theorem ev_mBin (g : OpF) (a b : EM) (ρ : Ro) (h : PH) : mBin g a b ρ h = (a ρ h).bind fun p h1 => (b ρ h1).bind fun q h2 => opt (g p q h2) := rfl
@[simp] theorem ev_mCh (g g' : OpF) (a b c : EM) (ρ : Ro) (h : PH) : mCh g g' a b c ρ h = (a ρ h).bind fun p h1 => (b ρ h1).bind fun q h2 => (opt (g p q h2)).bind fun z h3 => match z with
  | .bl true => (c ρ h3).bind fun w h4 => opt (g' q w h4)
  | .bl false => .ok (.bl false) h3
  | _ => .bad := rfl
@[simp] theorem ev_mUn (g : UnF) (a : EM) (ρ : Ro) (h : PH) : mUn g a ρ h = (a ρ h).bind fun p h1 => opt (g p h1) := rfl
@[simp] theorem ev_mAnd (a b : EM) (ρ : Ro) (h : PH) : mAnd a b ρ h = (a ρ h).bind fun p h1 => (asB p h1).bind fun k h2 => if k then b ρ h2 else .ok (.bl false) h2 := rfl
@[simp] theorem ev_mOr (a b : EM) (ρ : Ro) (h : PH) : mOr a b ρ h = (a ρ h).bind fun p h1 => (asB p h1).bind fun k h2 => if k then .ok (.bl true) h2 else b ρ h2 := rfl
@[simp] theorem ev_mNot (a : EM) (ρ : Ro) (h : PH) : mNot a ρ h = (a ρ h).bind fun p h1 => (asB p h1).bind fun k h2 => .ok (.bl (!k)) h2 := rfl
@[simp] theorem ev_mIf (t : TMm) (a b : EM) (ρ : Ro) (h : PH) : mIf t a b ρ h = (t ρ h).bind fun k h1 => if k then a ρ h1 else b ρ h1 := rfl
@[simp] theorem ev_tB (a : EM) (ρ : Ro) (h : PH) : tB_ a ρ h = (a ρ h).bind fun p h1 => asB p h1 := rfl
@[simp] theorem ev_tAnd (a b : TMm) (ρ : Ro) (h : PH) : tAnd_ a b ρ h = (a ρ h).bind fun k h1 => if k then b ρ h1 else .ok false h1 := rfl
@[simp] theorem ev_tOr (a b : TMm) (ρ : Ro) (h : PH) : tOr_ a b ρ h = (a ρ h).bind fun k h1 => if k then .ok true h1 else b ρ h1 := rfl
@[simp] theorem ev_tNot (a : TMm) (ρ : Ro) (h : PH) : tNot_ a ρ h = (a ρ h).bind fun k h1 => .ok (!k) h1 := rfl
@[simp] theorem ev_mNil (ρ : Ro) (h : PH) : mNil ρ h = .ok [] h := rfl
@[simp] theorem ev_mCons (a : EM) (r : AM) (ρ : Ro) (h : PH) : mCons a r ρ h = (a ρ h).bind fun p h1 => (r ρ h1).bind fun ps h2 => .ok (p :: ps) h2 := rfl
@[simp] theorem ev_mCallB (g : CF) (as : AM) (ρ : Ro) (h : PH) : mCallB g as ρ h = (as ρ h).bind fun ps h1 => opt (g ps h1) := rfl
@[simp] theorem ev_mCall (g : DF) (as : AM) (ρ : Ro) (h : PH) : mCall g as ρ h = (as ρ h).bind fun ps h1 => g ps h1 := rfl
@[simp] theorem ev_mMt (T : String) (g : MF) (a : EM) (as : AM) (ρ : Ro) (h : PH) : mMt T g a as ρ h = (a ρ h).bind fun p h1 => if isT T h1 p then (as ρ h1).bind fun ps h2 => opt (g p ps h2) else .bad := rfl
@[simp] theorem ev_mTup (as : AM) (ρ : Ro) (h : PH) : mTup as ρ h = (as ρ h).bind fun ps h1 => if ps.length ≤ sizeLine then .ok (.tup ps) h1 else .bad := rfl
@[simp] theorem ev_mLst (b : Bool) (as : AM) (ρ : Ro) (h : PH) : mLst b as ρ h = (as ρ h).bind fun ps h1 => if ps.length ≤ sizeLine then .ok (newL b ps h1).1 (newL b ps h1).2 else .bad := rfl
@[simp] theorem ev_mSl (g : SlF) (a : EM) (lo hi : Ro → PH → Out (Option Int)) (ρ : Ro) (h : PH) : mSl g a lo hi ρ h = (a ρ h).bind fun p h1 => (lo ρ h1).bind fun l h2 => (hi ρ h2).bind fun u h3 => opt (g p l u h3) := rfl
@[simp] theorem ev_mNoPart (ρ : Ro) (h : PH) : mNoPart ρ h = .ok none h := rfl
@[simp] theorem ev_mPart (a : EM) (ρ : Ro) (h : PH) : mPart a ρ h = (a ρ h).bind fun p h1 => match p with
  | .int i => .ok (some i) h1
  | _ => .bad := rfl
@[simp] theorem ev_newL_f (xs : List PV) (h : PH) : newL false xs h = (.lst xs, h) := rfl
@[simp] theorem ev_newL_t (xs : List PV) (h : PH) : newL true xs h = (.ref h.length, h ++ [.lst xs]) := rfl
@[simp] theorem ev_mPass (ρ : Ro) (h : PH) : mPass ρ h = .nx ρ h := rfl
@[simp] theorem ev_mSeq (a b : SM) (ρ : Ro) (h : PH) : mSeq a b ρ h = (match a ρ h with
  | .nx ρ1 h1 => b ρ1 h1
  | r => r) := rfl
@[simp] theorem ev_mAsg (t : Tg) (e : EM) (ρ : Ro) (h : PH) : mAsg t e ρ h = (e ρ h).st ρ fun p h1 => match asg t p ρ with
  | some ρ1 => .nx ρ1 h1
  | none => .bad := rfl
@[simp] theorem ev_asg_nm (i : Nat) (p : PV) (ρ : Ro) : asg (.nm i) p ρ = some (ρ.set i (some p)) := rfl
@[simp] theorem ev_mIfS (t : TMm) (a b : SM) (ρ : Ro) (h : PH) : mIfS t a b ρ h = (t ρ h).st ρ fun k h1 => if k then a ρ h1 else b ρ h1 := rfl
@[simp] theorem ev_mRet (e : EM) (ρ : Ro) (h : PH) : mRet e ρ h = (e ρ h).st ρ fun p h1 => .rt p h1 := rfl
@[simp] theorem ev_mExpr (e : EM) (ρ : Ro) (h : PH) : mExpr e ρ h = (e ρ h).st ρ fun _ h1 => .nx ρ h1 := rfl
@[simp] theorem ev_mRaise0 (x : Str) (ρ : Ro) (h : PH) : mRaise0 x ρ h = .ex x [] [] ρ h := rfl
@[simp] theorem ev_mSetI (o i e : EM) (ρ : Ro) (h : PH) : mSetI o i e ρ h = (e ρ h).st ρ fun v h1 => (o ρ h1).st ρ fun p h2 => (i ρ h2).st ρ fun q h3 => match fSetL p q v h3 with
  | some h4 => .nx ρ h4
  | none => .bad := rfl
/-- a def applied: the body's outcome on the frame, told as the def is left -/
theorem mDef_run {n sl : Nat} {frz : Bool} {body : SM} {ps : List PV} {h : PH} {o : Out PV} (hl : ps.length = n)
    (hb : (match body (ps.map some ++ List.replicate (sl - n) none) h with
      | .nx _ h1 => outF frz h.length .non h1
      | .rt v h1 => outF frz h.length v h1
      | .ex c fs xs _ h1 => outX frz h.length c fs xs h1
      | _ => .bad) = o) : mDef n sl frz body ps h = o := by
  unfold mDef
  rw [if_pos hl]
  exact hb
/-- a loop that returns v at the first item that fails P -/
theorem forL_all {chk : PH → Bool} {t : Tg} {body : SM} {h : PH} (hc : chk h = true) (P : PV → Bool) (v : PV) (Q : Ro → Prop) : ∀ (xs : List PV) (ρ : Ro), Q ρ →
    (∀ x ∈ xs, ∀ ρ, Q ρ → ∃ ρ1 ρ2, asg t x ρ = some ρ1 ∧ body ρ1 h = (if P x = true then .nx ρ2 h else .rt v h) ∧ Q ρ2) →
    (xs.all P = true → ∃ ρ', forL chk t body xs ρ h = .nx ρ' h ∧ Q ρ') ∧ (xs.all P = false → forL chk t body xs ρ h = .rt v h)
  | [], ρ, hq, _ => ⟨fun _ => ⟨ρ, by simp [forL, hc], hq⟩, fun z => by simp at z⟩
  | x :: xs, ρ, hq, hx => by
    obtain ⟨ρ1, ρ2, e1, e2, hq2⟩ := hx x List.mem_cons_self ρ hq
    have ih := forL_all hc P v Q xs ρ2 hq2 fun y hy => hx y (List.mem_cons_of_mem _ hy)
    cases hP : P x with
    | true =>
      rw [hP, if_pos rfl] at e2
      refine ⟨fun ha => ?_, fun ha => ?_⟩
      · simp only [forL, hc, if_true, e1, e2]
        exact ih.1 (by simpa [hP] using ha)
      · simp only [forL, hc, if_true, e1, e2]
        exact ih.2 (by simpa [hP] using ha)
    | false =>
      rw [hP, if_neg Bool.false_ne_true] at e2
      refine ⟨fun ha => by simp [hP] at ha, fun _ => ?_⟩
      simp only [forL, hc, if_true, e1, e2]
end Ev
/-! P2: the plain law of k74. -/
namespace Ev
open PySem PySem.Spec PyProof.Rows L2
/-! ### kinds -/
theorem kb (a b : String) (r : Bool) (h : kitB a b = some r := by decide +kernel) : kitB a b = some r := h
@[simp] theorem isi_non_tup : kitB "NoneType" "tuple" = some false := by decide +kernel
@[simp] theorem isi_bl_tup : kitB "bool" "tuple" = some false := by decide +kernel
@[simp] theorem isi_int_tup : kitB "int" "tuple" = some false := by decide +kernel
@[simp] theorem isi_str_tup : kitB "str" "tuple" = some false := by decide +kernel
@[simp] theorem isi_tup_tup : kitB "tuple" "tuple" = some true := by decide +kernel
@[simp] theorem isi_lst_tup : kitB "list" "tuple" = some false := by decide +kernel
@[simp] theorem isi_dct_tup : kitB "dict" "tuple" = some false := by decide +kernel
@[simp] theorem isi_non_str : kitB "NoneType" "str" = some false := by decide +kernel
@[simp] theorem isi_bl_str : kitB "bool" "str" = some false := by decide +kernel
@[simp] theorem isi_int_str : kitB "int" "str" = some false := by decide +kernel
@[simp] theorem isi_str_str : kitB "str" "str" = some true := by decide +kernel
@[simp] theorem isi_tup_str : kitB "tuple" "str" = some false := by decide +kernel
@[simp] theorem isi_lst_str : kitB "list" "str" = some false := by decide +kernel
@[simp] theorem isi_dct_str : kitB "dict" "str" = some false := by decide +kernel
@[simp] theorem isi_non_int : kitB "NoneType" "int" = some false := by decide +kernel
@[simp] theorem isi_bl_int : kitB "bool" "int" = some true := by decide +kernel
@[simp] theorem isi_int_int : kitB "int" "int" = some true := by decide +kernel
@[simp] theorem isi_str_int : kitB "str" "int" = some false := by decide +kernel
@[simp] theorem isi_tup_int : kitB "tuple" "int" = some false := by decide +kernel
@[simp] theorem isi_lst_int : kitB "list" "int" = some false := by decide +kernel
@[simp] theorem isi_dct_int : kitB "dict" "int" = some false := by decide +kernel
@[simp] theorem isi_non_bl : kitB "NoneType" "bool" = some false := by decide +kernel
@[simp] theorem isi_bl_bl : kitB "bool" "bool" = some true := by decide +kernel
@[simp] theorem isi_int_bl : kitB "int" "bool" = some false := by decide +kernel
@[simp] theorem isi_str_bl : kitB "str" "bool" = some false := by decide +kernel
@[simp] theorem isi_tup_bl : kitB "tuple" "bool" = some false := by decide +kernel
@[simp] theorem isi_lst_bl : kitB "list" "bool" = some false := by decide +kernel
@[simp] theorem isi_dct_bl : kitB "dict" "bool" = some false := by decide +kernel
/-- a value whose kind is plain -/
def pk : PV → Bool
  | .non => true
  | .bl _ => true
  | .int _ => true
  | .str _ => true
  | .tup _ => true
  | .lst _ => true
  | .dct _ _ => true
  | _ => false
/-- an int that is no bool -/
def isI : PV → Bool
  | .int _ => true
  | _ => false
theorem integer_eq {p : PV} {h : PH} (hp : pk p = true) : m_is_integer [p] h = .ok (.bl (isI p)) h := mDef_run rfl (by
  cases p <;> simp [pk] at hp <;> simp [b_is_integer, mV, fIsi, tyN, isI, outF_same])
def inIv (p : PV) (lo hi : Int) : Bool := match p with
  | .int i => decide (lo ≤ i) && decide (i ≤ hi)
  | _ => false
theorem within_eq {p : PV} {h : PH} {lo hi : Int} (hp : pk p = true) : m_is_within [p, .int lo, .int hi] h = .ok (.bl (inIv p lo hi)) h := mDef_run rfl (by
  have e := integer_eq (h := h) hp
  cases p <;> simp [pk] at hp <;> simp [b_is_within, mV, fI, e, isI, inIv, outF_same]
  rename_i i
  by_cases hlo : lo ≤ i <;> simp [hlo, outF_same])
/-- a word of a step -/
def isW (w : Str) : Bool := decide (w = "write") || decide (w = "drop")
/-- a step: a word and a piece -/
def stB (p : PV) : Bool := match p with
  | .tup [.str w, q] => isW w && inIv q 0 39
  | _ => false
/-- a thing of a plan: plain, and plain within -/
def pk2 : PV → Bool
  | .tup xs => xs.all pk
  | p => pk p
theorem pair_eq {p : PV} {h : PH} (hp : pk p = true) : m_is_pair [p] h = .ok (.bl (match p with | .tup xs => decide (xs.length = 2) | _ => false)) h := mDef_run rfl (by
  cases p with
  | tup xs =>
    have e : ((xs.length : Int) = 2) ↔ xs.length = 2 := by omega
    simp [b_is_pair, mV, fIsi, tyN, fLen, asQ, asL, asT, outF_same, e]
  | _ => first | (simp [pk] at hp; done) | simp [b_is_pair, mV, fIsi, tyN, outF_same])
theorem inW_t (w : Str) (h : PH) : fIn true (.str w) (.tup [.str "write", .str "drop"]) h = some (.bl (!isW w), h) := by
  simp only [fIn, orF, fInS, fInQ, asQ, asL, asT, toV, toVs, Option.bind, inV, isW, eqV]
  by_cases h1 : w = "write"
  · simp [h1]
  · by_cases h2 : w = "drop"
    · simp [h2]
    · simp [h1, h2, Ne.symm h1, Ne.symm h2]
theorem inW_l (w : Str) (h : PH) : fIn true (.str w) (.lst [.str "write", .str "drop"]) h = some (.bl (!isW w), h) := by
  simp only [fIn, orF, fInS, fInQ, asQ, asL, asT, toV, toVs, Option.bind, inV, isW, eqV]
  by_cases h1 : w = "write"
  · simp [h1]
  · by_cases h2 : w = "drop"
    · simp [h2]
    · simp [h1, h2, Ne.symm h1, Ne.symm h2]
theorem step_eq {p : PV} {h : PH} (hp : pk p = true) (hp2 : pk2 p = true) : m_is_step [p, .int 40] h = .ok (.bl (stB p)) h := mDef_run rfl (by
  have e := pair_eq (h := h) hp
  cases p with
  | tup xs =>
    match xs, hp2 with
    | [], _ => simp [b_is_step, mV, e, stB, outF_same]
    | [_], _ => simp [b_is_step, mV, e, stB, outF_same]
    | _ :: _ :: _ :: _, _ => simp [b_is_step, mV, e, stB, outF_same]
    | [a, b], hk =>
      have hk' : pk a = true ∧ pk b = true := by simpa [pk2] using hk
      have e2 := within_eq (h := h) (lo := 0) (hi := 39) hk'.2
      cases a with
      | str w =>
        cases hw : isW w <;> simp [b_is_step, mV, e, stB, outF_same, fIx, asQ, asL, asT, fIsi, tyN, atI, ixN, sizeLine_eq, inW_t, e2, fI, hw]
      | _ => first | (simp [pk] at hk'; done) | simp [b_is_step, mV, e, stB, outF_same, fIx, asQ, asL, asT, fIsi, tyN, atI, ixN]
  | _ => first | (simp [pk] at hp; done) | simp [b_is_step, mV, e, stB, outF_same])
/-- a plan -/
def planB (p : PV) : Bool := match p with
  | .tup xs => decide (xs.length ≤ 2000) && xs.all stB
  | _ => false
def pk3 (p : PV) : Bool := pk p && (match p with
  | .tup xs => xs.all fun x => pk x && pk2 x
  | _ => true)
theorem fAll_bl {α : Type} (g : α → Bool) (xs : List α) (h : PH) : fAll [.lst (xs.map fun x => .bl (g x))] h = some (.bl (xs.all g), h) := by
  have e : (xs.map fun x => PV.bl (g x)) = (xs.map g).map PV.bl := by rw [List.map_map]; rfl
  simp only [fAll, asL, Option.bind, e, asBs_map, Option.map]
  rw [List.all_map]
  rfl
theorem check_eq {p : PV} {h : PH} (hp : pk3 p = true) : m_check_steps [p] h = if planB p = true then .ok .non h else .ex "BadPlan" [] [] h := mDef_run rfl (by
  obtain ⟨hp1, hp2⟩ := Bool.and_eq_true_iff.mp hp
  cases p with
  | tup xs =>
    have hx : ∀ x ∈ xs, pk x = true ∧ pk2 x = true := fun x hx => Bool.and_eq_true_iff.mp (List.all_eq_true.mp hp2 x hx)
    by_cases hl : xs.length ≤ 2000
    · have hl' : ¬ ((2000 : Int) < xs.length) := by omega
      have lc := mLc_pure (b := false) (own := [1]) (mi := mIt (mV 0)) (t := .nm 1) (me := mCall m_is_step (mCons (mV 1) (mCons (mBin (fAdd false) (mC (.int 39)) (mC (.int 1))) mNil))) (ρ := [some (.tup xs), none]) (h := h) (s := ⟨xs, fun _ => true⟩)
        id (fun x => .bl (stB x)) xs rfl (by simp) rfl (fun x hx' => ⟨_, rfl, by simp [mV, wipeR, fAdd, orF, fI, step_eq (hx x hx').1 (hx x hx').2]⟩) (by rw [sizeLine_eq]; omega)
      cases ha : xs.all stB <;> simp [b_check_steps, mV, fIsi, tyN, fLen, asQ, asL, asT, fI, hl', lc, fAll_bl, ha, planB, hl, outF_same, outX_same]
    · have hl' : (2000 : Int) < xs.length := by omega
      simp [b_check_steps, mV, fIsi, tyN, fLen, asQ, asL, asT, fI, hl', planB, hl, outF_same, outX_same]
  | _ => first | (simp [pk] at hp1; done) | simp [b_check_steps, mV, fIsi, tyN, planB, outF_same, outX_same])
theorem isplan_eq {p : PV} {h : PH} (hp : pk3 p = true) : m__law_is_plan [p] h = .ok (.bl (planB p)) h := mDef_run rfl (by
  obtain ⟨hp1, hp2⟩ := Bool.and_eq_true_iff.mp hp
  cases p with
  | tup xs =>
    have hx : ∀ x ∈ xs, pk x = true ∧ pk2 x = true := fun x hx => Bool.and_eq_true_iff.mp (List.all_eq_true.mp hp2 x hx)
    by_cases hl : xs.length ≤ 2000
    · have hl' : ¬ ((2000 : Int) < xs.length) := by omega
      have lp := forL_all (chk := fun _ => true) (t := .nm 1) (h := h) (body := mSeq (mIfS (tOr_ (tNot_ (tB_ (mCallB fIsi (mCons (mV 1) (mCons (mC (.ty "tuple")) mNil))))) (tOr_ (tB_ (mBin fNe (mCallB fLen (mCons (mV 1) mNil)) (mC (.int 2)))) (tNot_ (tB_ (mCallB fIsi (mCons (mBin fIx (mV 1) (mC (.int 0))) (mCons (mC (.ty "str")) mNil))))))) (mRet (mC (.bl false))) mPass)
  (mSeq (mIfS (tOr_ (tNot_ (tB_ (mCallB fIsi (mCons (mBin fIx (mV 1) (mC (.int 1))) (mCons (mC (.ty "int")) mNil))))) (tOr_ (tB_ (mCallB fIsi (mCons (mBin fIx (mV 1) (mC (.int 1))) (mCons (mC (.ty "bool")) mNil)))) (tNot_ (tB_ (mCh fLe fLe (mC (.int 0)) (mBin fIx (mV 1) (mC (.int 1))) (mC (.int 39))))))) (mRet (mC (.bl false))) mPass)
  (mIfS (tAnd_ (tB_ (mBin fNe (mBin fIx (mV 1) (mC (.int 0))) (mC (.str "write")))) (tB_ (mBin fNe (mBin fIx (mV 1) (mC (.int 0))) (mC (.str "drop"))))) (mRet (mC (.bl false))) mPass))) rfl stB (.bl false)
        (fun ρ => ∃ y, ρ = [some (.tup xs), y]) xs [some (.tup xs), none] ⟨_, rfl⟩ (fun x hx' ρ ⟨y, hρ⟩ => by
          subst hρ
          refine ⟨[some (.tup xs), some x], [some (.tup xs), some x], rfl, ?_, ⟨_, rfl⟩⟩
          obtain ⟨k1, k2⟩ := hx x hx'
          cases x with
          | tup zs =>
            match zs, k2 with
            | [], _ => simp [mV, stB, fIsi, tyN, fLen, asQ, asL, asT]
            | [_], _ => simp [mV, stB, fIsi, tyN, fLen, asQ, asL, asT]
            | a :: b :: c :: r, _ =>
              have e : ¬ ((r.length : Int) + 1 + 1 + 1 = 2) := by omega
              simp [mV, stB, fIsi, tyN, fLen, asQ, asL, asT, e]
            | [a, b], hk =>
              have hk' : pk a = true ∧ pk b = true := by simpa [pk2] using hk
              cases a with
              | str w =>
                cases b with
                | int i =>
                  by_cases h0 : 0 ≤ i
                  · by_cases h1 : i ≤ 39
                    · by_cases hw : w = "write"
                      · simp [mV, stB, fIsi, tyN, fLen, asQ, asL, asT, fIx, atI, ixN, fI, inIv, isW, h0, h1, hw]
                      · by_cases hd : w = "drop"
                        · simp [mV, stB, fIsi, tyN, fLen, asQ, asL, asT, fIx, atI, ixN, fI, inIv, isW, h0, h1, hd]
                        · simp [mV, stB, fIsi, tyN, fLen, asQ, asL, asT, fIx, atI, ixN, fI, inIv, isW, h0, h1, hw, hd]
                    · simp [mV, stB, fIsi, tyN, fLen, asQ, asL, asT, fIx, atI, ixN, fI, inIv, isW, h0, h1]
                  · simp [mV, stB, fIsi, tyN, fLen, asQ, asL, asT, fIx, atI, ixN, fI, inIv, isW, h0]
                | _ => first | (simp [pk] at hk'; done) | simp [mV, stB, fIsi, tyN, fLen, asQ, asL, asT, fIx, atI, ixN, inIv]
              | _ => first | (simp [pk] at hk'; done) | simp [mV, stB, fIsi, tyN, fLen, asQ, asL, asT, fIx, atI, ixN]
          | _ => first | (simp [pk] at k1; done) | simp [mV, stB, fIsi, tyN])
      cases ha : xs.all stB with
      | true =>
        obtain ⟨ρ', e, y, hρ⟩ := lp.1 ha
        simp [b__law_is_plan, mFor, mIt, itSeq, mV, fIsi, tyN, fLen, asQ, asL, asT, fI, hl', planB, hl, outF_same, e, ha]
      | false =>
        have e := lp.2 ha
        simp [b__law_is_plan, mFor, mIt, itSeq, mV, fIsi, tyN, fLen, asQ, asL, asT, fI, hl', planB, hl, outF_same, e, ha]
    · have hl' : (2000 : Int) < xs.length := by omega
      simp [b__law_is_plan, mV, fIsi, tyN, fLen, asQ, asL, asT, fI, hl', planB, hl, outF_same]
  | _ => first | (simp [pk] at hp1; done) | simp [b__law_is_plan, mV, fIsi, tyN, planB, outF_same])
end Ev
/-! P3: texts of plans. -/
namespace Ev
open PySem PySem.Spec PyProof.Rows L2
theorem len_tl (x : Str) : x.length = x.cps.toList.length := (Array.length_toList (xs := x.cps)).symm
theorem len_add (x y : Str) : (x ++ y).length = x.length + y.length := by
  rw [len_tl, len_tl, len_tl, PySem.W.KT.app_list, List.length_append]
/-- a step's piece is a number of at most nine figures -/
def okP9 (y : Str × Int) : Bool := isW y.1 && decide (0 ≤ y.2) && decide (y.2 < 10 ^ 10)
def numS (i : Int) : Str := Str.ofString (toString i)
def stP (y : Str × Int) : PV := .tup [.str y.1, .int y.2]
def lineN (y : Str × Int) : Str := y.1 ++ " " ++ numS y.2
def lineS (y : Str × Int) : Str := lineN y ++ "\n"
def textS (ys : List (Str × Int)) : Str := Txt.join "" (ys.map lineS)
theorem isW_len {w : Str} (h : isW w = true) : w.length ≤ 5 := by
  unfold isW at h
  rcases Bool.or_eq_true_iff.mp h with h | h
  · rw [of_decide_eq_true h]; decide
  · rw [of_decide_eq_true h]; decide
theorem num_len {i : Int} (h0 : 0 ≤ i) (h1 : i < 10 ^ 10) : (numS i).length ≤ 10 := by
  have l := PySem.W.KT.len_num h0 h1
  rw [len_tl]
  exact l
theorem log_ok {i : Int} (h0 : 0 ≤ i) (h1 : i < 10 ^ 10) : i.natAbs.log2 < 1920 := by
  have h2 : i.natAbs < 2 ^ 1920 := by
    have : i.natAbs < 10 ^ 10 := by omega
    exact Nat.lt_of_lt_of_le this (by decide)
  by_cases z : i.natAbs = 0
  · rw [z]; decide
  · exact (Nat.log2_lt z).mpr h2
theorem one_len (s : Str) (n : Nat) (h : s.length = n := by decide) : s.length = n := h
theorem line_ok {y : Str × Int} (h : okP9 y = true) (h' : PH) (ρ : Ro) (i1 i2 : Nat) (e1 : ρ[i1]? = some (some (.str y.1))) (e2 : ρ[i2]? = some (some (.int y.2))) :
    mBin (fAdd false) (mBin (fAdd false) (mBin (fAdd false) (mV i1) (mC (.str " "))) (mCallB fStr (mCons (mV i2) mNil))) (mC (.str "\n")) ρ h' = .ok (.str (lineS y)) h' ∧ (lineS y).length ≤ 17 := by
  obtain ⟨h1, h3⟩ := Bool.and_eq_true_iff.mp h
  obtain ⟨h1, h2⟩ := Bool.and_eq_true_iff.mp h1
  have hw := isW_len h1
  have hn := num_len (of_decide_eq_true h2) (of_decide_eq_true h3)
  have hlog := log_ok (of_decide_eq_true h2) (of_decide_eq_true h3)
  have s1 : (" " : Str).length = 1 := rfl
  have s2 : ("\n" : Str).length = 1 := rfl
  have hn' : (Str.ofString (toString y.2)).length ≤ 10 := hn
  have a1 : y.1.length + (" " : Str).length ≤ 16777216 := by omega
  have a2 : (y.1 ++ (" " : Str)).length + (Str.ofString (toString y.2)).length ≤ 16777216 := by rw [len_add]; omega
  have a3 : (y.1 ++ (" " : Str) ++ Str.ofString (toString y.2)).length + ("\n" : Str).length ≤ 16777216 := by rw [len_add, len_add]; omega
  refine ⟨?_, ?_⟩
  · simp only [ev_mBin, ev_mCallB, ev_mCons, ev_mNil, ev_mC, mV, e1, e2, ev_bind_ok, fAdd, orF, fAddI, fI, fAddS, fStr, hlog, if_true, sizeLine_eq, a1, a2, a3, ev_opt_some]
    rfl
  · unfold lineS lineN numS
    rw [len_add, len_add, len_add]
    omega
theorem sum_le {α : Type} (f : α → Nat) (k : Nat) : ∀ (xs : List α), (∀ x ∈ xs, f x ≤ k) → (xs.map f).sum ≤ k * xs.length
  | [], _ => by simp
  | x :: xs, h => by
    have ih := sum_le f k xs fun y hy => h y (List.mem_cons_of_mem _ hy)
    have h1 := h x List.mem_cons_self
    rw [List.map_cons, List.sum_cons, List.length_cons, Nat.mul_add, Nat.mul_one]
    omega
theorem line_len {y : Str × Int} (h : okP9 y = true) : (lineS y).length ≤ 17 := (line_ok h [] [some (.str y.1), some (.int y.2)] 0 1 rfl rfl).2
theorem text_core {n : Nat} {ys : List (Str × Int)} (ok : ys.all okP9 = true) (hl : ys.length ≤ 3000) (h : PH) (ρ : Ro) (hρ : ρ = [some (.tup (ys.map stP)), none, none]) :
    mMt "str" fJoin (mC (.str "")) (mCons (mLc false [1, 2] (mIt (mV 0)) (.tp [(.nm 1), (.nm 2)]) tYes_ (mBin (fAdd false) (mBin (fAdd false) (mBin (fAdd false) (mV 1) (mC (.str " "))) (mCallB fStr (mCons (mV 2) mNil))) (mC (.str "\n")))) mNil) ρ h = .ok (.str (textS ys)) h := by
  subst hρ
  have hy : ∀ y ∈ ys, okP9 y = true := fun y hy => List.all_eq_true.mp ok y hy
  have lc := mLc_pure (b := false) (own := [1, 2]) (mi := mIt (mV 0)) (t := .tp [(.nm 1), (.nm 2)]) (me := mBin (fAdd false) (mBin (fAdd false) (mBin (fAdd false) (mV 1) (mC (.str " "))) (mCallB fStr (mCons (mV 2) mNil))) (mC (.str "\n")))
    (ρ := [some (.tup (ys.map stP)), none, none]) (h := h) (s := ⟨ys.map stP, fun _ => true⟩) stP (fun y => .str (lineS y)) ys rfl rfl rfl
    (fun y hy' => ⟨[some (.tup (ys.map stP)), some (.str y.1), some (.int y.2)], rfl, (line_ok (hy y hy') h _ 1 2 rfl rfl).1⟩) (by rw [sizeLine_eq]; omega)
  have e1 : (ys.map fun y => PV.str (lineS y)) = (ys.map lineS).map PV.str := by rw [List.map_map]; rfl
  have e2 : ((ys.map lineS).map (·.length)).sum + (ys.map lineS).length * ("" : Str).length ≤ 16777216 := by
    have := sum_le (fun y : Str => y.length) 17 (ys.map lineS) (fun x hx => by obtain ⟨y, hy1, rfl⟩ := List.mem_map.mp hx; exact line_len (hy y hy1))
    have z : ("" : Str).length = 0 := rfl
    rw [z, Nat.mul_zero, Nat.add_zero]
    rw [List.length_map] at this
    exact Nat.le_trans this (by omega)
  simp only [ev_mMt, ev_mC, ev_bind_ok, isT, isS, decide_true, Bool.and_self, Bool.true_or, if_true, ev_mCons, ev_mNil, lc, e1, ev_newL_f, fJoin, asQ, asL, Option.bind, asSs_map, e2, ev_opt_some]
  rfl
theorem ltext_eq {ys : List (Str × Int)} (ok : ys.all okP9 = true) (hl : ys.length ≤ 3000) (h : PH) : m__law_text [.tup (ys.map stP)] h = .ok (.str (textS ys)) h := mDef_run rfl (by
  have e := text_core (n := 0) ok hl h _ rfl
  simp only [b__law_text, ev_mRet, List.map_cons, List.map_nil, List.replicate, List.singleton_append, List.cons_append, List.nil_append]
  rw [e]
  simp [outF_same])
theorem stP_pk3 (ys : List (Str × Int)) : pk3 (.tup (ys.map stP)) = true := by
  simp [pk3, pk, stP, pk2]
/-- the program's text of a plan -/
theorem ptext_eq {ys : List (Str × Int)} (ok : ys.all okP9 = true) (hl : ys.length ≤ 3000) (h : PH) (hp : planB (.tup (ys.map stP)) = true) : m_plan_text [.tup (ys.map stP)] h = .ok (.str (textS ys)) h := mDef_run rfl (by
  have e := text_core (n := 0) ok hl h _ rfl
  have c := check_eq (h := h) (stP_pk3 ys)
  rw [hp, if_pos rfl] at c
  simp only [b_plan_text, ev_mSeq, ev_mExpr, ev_mCall, ev_mCons, ev_mNil, mV, List.map_cons, List.map_nil, List.replicate, List.singleton_append, List.cons_append, List.nil_append, List.getElem?_cons_zero, ev_bind_ok, c, ev_st_ok, ev_mRet]
  rw [e]
  simp [outF_same])
/-- what is no plan is refused -/
theorem ptext_bad {p : PV} (hk : pk3 p = true) (h : PH) (hp : planB p = false) : m_plan_text [p] h = .ex "BadPlan" [] [] h := mDef_run rfl (by
  have c := check_eq (h := h) hk
  rw [hp, if_neg Bool.false_ne_true] at c
  simp only [b_plan_text, ev_mSeq, ev_mExpr, ev_mCall, ev_mCons, ev_mNil, mV, List.map_cons, List.map_nil, List.replicate, List.singleton_append, List.cons_append, List.nil_append, List.getElem?_cons_zero, ev_bind_ok, c, ev_st_ex]
  simp [outX_same])
end Ev
/-! P4: numbers and steps read. -/
namespace Ev
open PySem PySem.Spec PyProof.Rows L2
def figs : List Nat := ("0123456789" : Str).cps.toList
/-- a word of one to nine figures -/
def figW (w : Str) : Bool := decide (1 ≤ w.length) && decide (w.length ≤ 9) && w.cps.toList.all fun c => decide (c ∈ figs)
/-- a leading nought ahead of more -/
def lead (w : Str) : Bool := decide (1 < w.length) && decide (w.cps.toList.head? = some 48)
def numF (w : Str) : Option Int := if figW w && !lead w then some ((NumText.digitsVal w.cps.toList : Nat) : Int) else none
def oI_ : Option Int → PV
  | some i => .int i
  | none => .non
theorem figs_digits {l : List Nat} (h : (l.all fun c => decide (c ∈ figs)) = true) : NumText.AllDigits l := by
  intro c hc
  have := of_decide_eq_true (List.all_eq_true.mp h c hc)
  have hf : figs = [48, 49, 50, 51, 52, 53, 54, 55, 56, 57] := by decide +kernel
  rw [hf] at this
  simp at this
  omega
theorem int_figs {w : Str} (h : figW w = true) : PySem.intText? w = some ((NumText.digitsVal w.cps.toList : Nat) : Int) := by
  obtain ⟨h1, h3⟩ := Bool.and_eq_true_iff.mp h
  obtain ⟨h1, h2⟩ := Bool.and_eq_true_iff.mp h1
  have l1 := of_decide_eq_true h1
  have l2 := of_decide_eq_true h2
  refine PySem.intText_digits (figs_digits h3) (fun z => ?_) (by omega)
  rw [len_tl, z] at l1
  exact absurd l1 (by decide)
theorem figW_chars (w : Str) (h : PH) (ρ0 : Ro) (i : Nat) (own : List Nat) (src : IMm) (ρ : Ro) (hs : src ρ h = .ok ⟨w.cps.toList.map fun c => .str ⟨#[c]⟩, fun _ => true⟩ h) (hi : i < ρ.length) (hown : wipeR ρ own = ρ0) (hl0 : ρ0.length = ρ.length) (hl : w.length ≤ 1000000) :
    mLc false own src (.nm i) tYes_ (mBin (fIn false) (mV i) (mC (.str "0123456789"))) ρ h = .ok (.lst (w.cps.toList.map fun c => .bl (decide (c ∈ figs)))) h := by
  have lc := mLc_pure (b := false) (own := own) (mi := src) (t := .nm i) (me := mBin (fIn false) (mV i) (mC (.str "0123456789"))) (ρ := ρ) (h := h) (s := ⟨w.cps.toList.map fun c => .str ⟨#[c]⟩, fun _ => true⟩)
    (fun c => .str ⟨#[c]⟩) (fun c => .bl (decide (c ∈ figs))) w.cps.toList hs rfl rfl (fun c _ => ⟨_, rfl, by
      rw [hown]
      have e : (ρ0.set i (some (PV.str ⟨#[c]⟩)))[i]? = some (some (PV.str ⟨#[c]⟩)) := List.getElem?_set_self (by rw [hl0]; exact hi)
      simp [mV, e, fIn, orF, fInS, figs]⟩) (by rw [← len_tl, sizeLine_eq]; omega)
  rw [lc]
  rfl
theorem first_sign (w : Str) (h : PH) (hw : 1 ≤ w.length) (hl : w.length ≤ 1000000) : ∃ c, w.cps.toList.head? = some c ∧ fIx (.str w) (.int 0) h = some (.str ⟨#[c]⟩, h) := by
  cases e : w.cps.toList with
  | nil => rw [len_tl, e] at hw; exact absurd hw (by decide)
  | cons c r =>
    refine ⟨c, rfl, ?_⟩
    simp [fIx, asQ, asL, asT, sizeLine_eq, atI, ixN, e]
    omega
theorem sign_eq (c : Nat) : decide ((⟨#[c]⟩ : Str) = "0") = decide (c = 48) := by
  have e : ("0" : Str) = ⟨#[48]⟩ := by decide +kernel
  rw [e]
  by_cases h : c = 48
  · simp [h]
  · simp [h]
theorem number_eq {w : Str} (hl : w.length ≤ 1000000) (h : PH) : m_number_in [.str w] h = .ok (oI_ (numF w)) h := mDef_run rfl (by
  have lc := figW_chars w h [some (.str w), none] 1 [1] (mIt (mV 0)) [some (.str w), none] rfl (by simp) rfl rfl hl
  have ea := fAll_bl (fun c => decide (c ∈ figs)) w.cps.toList h
  have hz : w.length ≤ 16777216 := by omega
  by_cases h1 : 1 ≤ w.length
  · by_cases h2 : w.length ≤ 9
    · have k1 : (1 : Int) ≤ w.length := by omega
      have k2 : (w.length : Int) ≤ 9 := by omega
      cases ha : w.cps.toList.all fun c => decide (c ∈ figs) with
      | false =>
        have hn : numF w = none := by simp [numF, figW, ha]
        simp [b_number_in, mV, fLen, asQ, asL, asT, sizeLine_eq, hz, fI, k1, k2, lc, ea, ha, hn, oI_, outF_same]
      | true =>
        have hf : figW w = true := by simp [figW, h1, h2, ha]
        have hi := int_figs hf
        have h640 : w.length ≤ 640 := by omega
        obtain ⟨c, c1, c2⟩ := first_sign w h h1 hl
        by_cases h3 : 1 < w.length
        · have k3 : (1 : Int) < w.length := by omega
          by_cases h4 : c = 48
          · have hn : numF w = none := by simp [numF, lead, h3, c1, h4]
            have s4 : decide ((⟨#[c]⟩ : Str) = "0") = true := by rw [sign_eq, h4]; rfl
            simp only [decide_eq_true_eq] at s4
            simp [b_number_in, mV, fLen, asQ, asL, asT, sizeLine_eq, hz, fI, k1, k2, k3, lc, ea, ha, hn, oI_, outF_same, c2, s4]
          · have hn : numF w = some ((NumText.digitsVal w.cps.toList : Nat) : Int) := by simp [numF, lead, hf, c1, h4]
            have s4 : decide ((⟨#[c]⟩ : Str) = "0") = false := by rw [sign_eq]; simp [h4]
            simp only [decide_eq_false_iff_not] at s4
            simp [b_number_in, mV, fLen, asQ, asL, asT, sizeLine_eq, hz, fI, k1, k2, k3, lc, ea, ha, hn, oI_, outF_same, c2, s4, fInt, orC, fInt1, fInt2, hi, h640]
        · have k3 : ¬ (1 : Int) < w.length := by omega
          have hn : numF w = some ((NumText.digitsVal w.cps.toList : Nat) : Int) := by simp [numF, lead, hf, h3]
          simp [b_number_in, mV, fLen, asQ, asL, asT, sizeLine_eq, hz, fI, k1, k2, k3, lc, ea, ha, hn, oI_, outF_same, fInt, orC, fInt1, fInt2, hi, h640]
    · have k1 : (1 : Int) ≤ w.length := by omega
      have k2 : ¬ (w.length : Int) ≤ 9 := by omega
      have hn : numF w = none := by simp [numF, figW, h2]
      simp [b_number_in, mV, fLen, asQ, asL, asT, sizeLine_eq, hz, fI, k1, k2, hn, oI_, outF_same]
  · have k1 : ¬ (1 : Int) ≤ w.length := by omega
    have hn : numF w = none := by simp [numF, figW, h1]
    simp [b_number_in, mV, fLen, asQ, asL, asT, sizeLine_eq, hz, fI, k1, hn, oI_, outF_same])
end Ev
/-! P5: steps read from a line. -/
namespace Ev
open PySem PySem.Spec PyProof.Rows L2
theorem mem_joinL (S : List Nat) : ∀ (ps : List (List Nat)) (p : List Nat), p ∈ ps → p.length ≤ (TL.joinL S ps).length
  | [], _, h => by cases h
  | [q], p, h => by
    rw [List.mem_singleton.mp h]
    simp [TL.joinL]
  | q :: r :: ps, p, h => by
    have e : TL.joinL S (q :: r :: ps) = q ++ (S ++ TL.joinL S (r :: ps)) := by simp [TL.joinL]
    rw [e, List.length_append, List.length_append]
    rcases List.mem_cons.mp h with rfl | h
    · omega
    · have := mem_joinL S (r :: ps) p h
      omega
theorem split_len (x y : Str) : ∀ p ∈ Txt.split x y, p.length ≤ x.length := fun p hp => by
  have e := StrLaws.join_split x y
  have t : x.cps.toList = TL.joinL y.cps.toList ((Txt.split x y).map fun z => z.cps.toList) := by
    have := TL.tl_join y (Txt.split x y)
    rw [e] at this
    exact this
  rw [len_tl, len_tl, t]
  exact mem_joinL _ _ _ (List.mem_map.mpr ⟨p, hp, rfl⟩)
theorem split_sp {l : Str} (hl : l.length ≤ 1000000) (h : PH) : fSplit false (.str l) [.str " "] h = some (.lst ((Txt.split l " ").map PV.str), h) := by
  have s1 : ((" " : Str).length == 0) = false := by decide
  have s2 : l.length + 2 ≤ sizeLine := by rw [sizeLine_eq]; omega
  unfold fSplit
  simp only [s1, s2, and_self, if_true, ev_newL_f]
theorem split_nl {l : Str} (hl : l.length ≤ 1000000) (h : PH) : fSplit false (.str l) [.str "\n"] h = some (.lst ((Txt.split l "\n").map PV.str), h) := by
  have s1 : (("\n" : Str).length == 0) = false := by decide
  have s2 : l.length + 2 ≤ sizeLine := by rw [sizeLine_eq]; omega
  unfold fSplit
  simp only [s1, s2, and_self, if_true, ev_newL_f]
def stepF (l : Str) : Option (Str × Int) := match Txt.split l " " with
  | [w, n] => if isW w then (numF n).map fun i => (w, i) else none
  | _ => none
def stepP : Option (Str × Int) → PV
  | some y => stP y
  | none => .non
theorem stepin_eq {l : Str} (hl : l.length ≤ 1000000) (h : PH) : m_step_in [.str l] h = .ok (stepP (stepF l)) h := mDef_run rfl (by
  have sp := split_sp hl h
  have sl := split_len l " "
  cases hw : Txt.split l " " with
  | nil =>
    have hf : stepF l = none := by simp [stepF, hw]
    simp [b_step_in, mV, isT, isS, sp, sizeLine_eq, hw, hf, stepP, fLen, asQ, asL, outF_same]
  | cons w r =>
    cases r with
    | nil =>
      have hf : stepF l = none := by simp [stepF, hw]
      simp [b_step_in, mV, isT, isS, sp, sizeLine_eq, hw, hf, stepP, fLen, asQ, asL, outF_same]
    | cons n r =>
      cases r with
      | cons z r =>
        have hf : stepF l = none := by simp [stepF, hw]
        have e : ¬ ((r.length : Int) + 1 + 1 + 1 = 2) := by omega
        simp [b_step_in, mV, isT, isS, sp, sizeLine_eq, hw, hf, stepP, fLen, asQ, asL, outF_same, e]
      | nil =>
        have ln : n.length ≤ 1000000 := Nat.le_trans (sl n (by rw [hw]; simp)) hl
        have en := number_eq ln h
        cases hiw : isW w with
        | false =>
          have hf : stepF l = none := by simp [stepF, hw, hiw]
          simp [b_step_in, mV, isT, isS, sp, sizeLine_eq, hw, hf, stepP, fLen, fIx, atI, ixN, asQ, asL, inW_t, hiw, outF_same]
        | true =>
          cases hnf : numF n with
          | none =>
            rw [hnf] at en
            have hf : stepF l = none := by simp [stepF, hw, hiw, hnf]
            simp [b_step_in, mV, isT, isS, sp, sizeLine_eq, hw, hf, stepP, fLen, fIx, atI, ixN, asQ, asL, inW_t, hiw, en, oI_, fIsN, isN, outF_same]
          | some i =>
            rw [hnf] at en
            have hf : stepF l = some (w, i) := by simp [stepF, hw, hiw, hnf]
            simp [b_step_in, mV, isT, isS, sp, sizeLine_eq, hw, hf, stepP, stP, fLen, fIx, atI, ixN, asQ, asL, inW_t, hiw, en, oI_, fIsN, isN, outF_same])
theorem ix0 (a : PV) (r : List PV) (h : PH) : fIx (.lst (a :: r)) (.int 0) h = some (a, h) := by simp [fIx, asQ, asL, atI, ixN]
theorem ix1 (a b : PV) (r : List PV) (h : PH) : fIx (.lst (a :: b :: r)) (.int 1) h = some (b, h) := by
  have e : (1 : Int) < (r.length : Int) + 1 + 1 := by omega
  simp [fIx, asQ, asL, atI, ixN, e]
theorem lawstep_eq {l : Str} (hl : l.length ≤ 1000000) (h : PH) : m__law_step [.str l] h = .ok (stepP (stepF l)) h := mDef_run rfl (by
  have sp := split_sp hl h
  have sl := split_len l " "
  cases hw : Txt.split l " " with
  | nil =>
    have hf : stepF l = none := by simp [stepF, hw]
    simp [b__law_step, mV, isT, isS, sp, sizeLine_eq, hw, hf, stepP, fLen, asQ, asL, outF_same]
  | cons w r =>
    cases r with
    | nil =>
      have hf : stepF l = none := by simp [stepF, hw]
      simp [b__law_step, mV, isT, isS, sp, sizeLine_eq, hw, hf, stepP, fLen, asQ, asL, outF_same]
    | cons n r =>
      cases r with
      | cons z r =>
        have hf : stepF l = none := by simp [stepF, hw]
        have e : ¬ ((r.length : Int) + 1 + 1 + 1 = 2) := by omega
        simp [b__law_step, mV, isT, isS, sp, sizeLine_eq, hw, hf, stepP, fLen, asQ, asL, outF_same, e]
      | nil =>
        have ln : n.length ≤ 1000000 := Nat.le_trans (sl n (by rw [hw]; simp)) hl
        have hz : n.length ≤ 16777216 := by omega
        cases hiw : isW w with
        | false =>
          have hf : stepF l = none := by simp [stepF, hw, hiw]
          simp [b__law_step, mV, isT, isS, sp, sizeLine_eq, hw, hf, stepP, fLen, fIx, atI, ixN, asQ, asL, inW_l, hiw, outF_same]
        | true =>
          have fin : ∀ {o : Option Int}, numF n = o → stepF l = o.map fun i => (w, i) := fun {o} e => by simp [stepF, hw, hiw, e]
          have lc := figW_chars n h [some (.str l), some (.lst [.str w, .str n]), some (.str n), none] 3 [3] (mIt (mV 2)) [some (.str l), some (.lst [.str w, .str n]), some (.str n), none] rfl (by simp) rfl rfl ln
          have ea := fAll_bl (fun c => decide (c ∈ figs)) n.cps.toList h
          by_cases h1 : 1 ≤ n.length
          · by_cases h2 : n.length ≤ 9
            · have k1 : (1 : Int) ≤ n.length := by omega
              have k2 : (n.length : Int) ≤ 9 := by omega
              cases ha : n.cps.toList.all fun c => decide (c ∈ figs) with
              | false =>
                have hf := fin (o := none) (by simp [numF, figW, ha])
                simp [b__law_step, mV, isT, isS, sp, sizeLine_eq, hw, hf, stepP, fLen, fIx, atI, ixN, asQ, asL, asT, inW_l, hiw, outF_same, hz, fI, k1, k2, lc, ea, ha]
              | true =>
                have hfw : figW n = true := by simp [figW, h1, h2, ha]
                have hi := int_figs hfw
                have h640 : n.length ≤ 640 := by omega
                obtain ⟨c, c1, c2⟩ := first_sign n h h1 ln
                by_cases h4 : c = 48
                · have s4 : (⟨#[c]⟩ : Str) = "0" := by
                    have : decide ((⟨#[c]⟩ : Str) = "0") = true := by rw [sign_eq, h4]; rfl
                    exact of_decide_eq_true this
                  by_cases h3 : 1 < n.length
                  · have k3 : (1 : Int) < n.length := by omega
                    have hf := fin (o := none) (by simp [numF, lead, h3, c1, h4])
                    simp [b__law_step, mV, isT, isS, sp, sizeLine_eq, hw, hf, stepP, fLen, asQ, asL, asT, inW_l, hiw, outF_same, hz, fI, k1, k2, k3, lc, ea, ha, ix0, ix1, c2, s4]
                  · have k3 : ¬ (1 : Int) < n.length := by omega
                    have hf := fin (o := some ((NumText.digitsVal n.cps.toList : Nat) : Int)) (by simp [numF, lead, hfw, h3])
                    simp [b__law_step, mV, isT, isS, sp, sizeLine_eq, hw, hf, stepP, stP, fLen, asQ, asL, asT, inW_l, hiw, outF_same, hz, fI, k1, k2, k3, lc, ea, ha, ix0, ix1, c2, s4, fInt, orC, fInt1, fInt2, hi, h640]
                · have s4 : ¬ (⟨#[c]⟩ : Str) = "0" := by
                    have : decide ((⟨#[c]⟩ : Str) = "0") = false := by rw [sign_eq]; simp [h4]
                    exact of_decide_eq_false this
                  have hf := fin (o := some ((NumText.digitsVal n.cps.toList : Nat) : Int)) (by simp [numF, lead, hfw, c1, h4])
                  simp [b__law_step, mV, isT, isS, sp, sizeLine_eq, hw, hf, stepP, stP, fLen, asQ, asL, asT, inW_l, hiw, outF_same, hz, fI, k1, k2, lc, ea, ha, ix0, ix1, c2, s4, fInt, orC, fInt1, fInt2, hi, h640]
            · have k1 : (1 : Int) ≤ n.length := by omega
              have k2 : ¬ (n.length : Int) ≤ 9 := by omega
              have hf := fin (o := none) (by simp [numF, figW, h2])
              simp [b__law_step, mV, isT, isS, sp, sizeLine_eq, hw, hf, stepP, fLen, fIx, atI, ixN, asQ, asL, asT, inW_l, hiw, outF_same, hz, fI, k1, k2]
          · have k1 : ¬ (1 : Int) ≤ n.length := by omega
            have hf := fin (o := none) (by simp [numF, figW, h1])
            simp [b__law_step, mV, isT, isS, sp, sizeLine_eq, hw, hf, stepP, fLen, fIx, atI, ixN, asQ, asL, asT, inW_l, hiw, outF_same, hz, fI, k1])
end Ev
/-! P6: the bag and its draws. -/
namespace Ev
open PySem PySem.Spec PyProof.Rows L2
def bagO (cs : List Int) (a b t : Int) : PO := .lst [.lst (cs.map PV.int), .int a, .int b, .int t]
def bagH (P : Addr) (q : Str) (cs : List Int) (a b t : Int) (e : PH) : PH := .tab P q :: bagO cs a b t :: e
def mix1 (c t : Int) : Int := (c % 2147483647 + 7919 * t + 1) * 48271 % 2147483647
def mix2 (n : Int) : Int := n * (n / 1009 + 69621) % 2147483647
def mix3 (n : Int) : Int := n * (n / 2003 + 40692) % 2147483399 / 16
theorem mix_lt {n : Int} : 0 ≤ n % 2147483647 ∧ n % 2147483647 < 2147483647 := ⟨Int.emod_nonneg _ (by decide), Int.emod_lt_of_pos _ (by decide)⟩
theorem cMul_l {i j : Int} (h : -(2 ^ 64) < i ∧ i < 2 ^ 64) : cMul i j = true := decide_eq_true (Or.inl h)
theorem cMul_r {i j : Int} (h : -(2 ^ 64) < j ∧ j < 2 ^ 64) : cMul i j = true := decide_eq_true (Or.inr h)
theorem cPos_ok {i j : Int} (h : 0 < j) : cPos i j = true := decide_eq_true h
theorem cDiv_ok {i j : Int} (h : 0 < j) (h2 : j < 1073741824) : cDiv i j = true := decide_eq_true ⟨h, h2⟩
theorem mixed_eq (c t : Int) (h : PH) : m__law_mixed [.int c, .int t] h = .ok (.int (mix3 (mix2 (mix1 c t)))) h := mDef_run rfl (by
  have l1 : 0 ≤ mix1 c t ∧ mix1 c t < 2147483647 := mix_lt
  have l2 : 0 ≤ mix2 (mix1 c t) ∧ mix2 (mix1 c t) < 2147483647 := mix_lt
  have c1 : cMul 7919 t = true := cMul_l (by decide)
  have c2 : ∀ i, cMul i 48271 = true := fun i => cMul_r (by decide)
  have c3 : ∀ j, cMul (mix1 c t) j = true := fun j => cMul_l ⟨by omega, by omega⟩
  have c4 : ∀ j, cMul (mix2 (mix1 c t)) j = true := fun j => cMul_l ⟨by omega, by omega⟩
  have p1 : ∀ i, cPos i 2147483647 = true := fun i => cPos_ok (by decide)
  have p2 : ∀ i, cPos i 2147483399 = true := fun i => cPos_ok (by decide)
  have d1 : ∀ i, cDiv i 1009 = true := fun i => cDiv_ok (by decide) (by decide)
  have d2 : ∀ i, cDiv i 2003 = true := fun i => cDiv_ok (by decide) (by decide)
  have d3 : ∀ i, cDiv i 16 = true := fun i => cDiv_ok (by decide) (by decide)
  have e1 : (c % 2147483647 + 7919 * t + 1) * 48271 % 2147483647 = mix1 c t := rfl
  have e2 : mix1 c t * (mix1 c t / 1009 + 69621) % 2147483647 = mix2 (mix1 c t) := rfl
  have e3 : mix2 (mix1 c t) * (mix2 (mix1 c t) / 2003 + 40692) % 2147483399 / 16 = mix3 (mix2 (mix1 c t)) := rfl
  simp [b__law_mixed, mV, fInt, orC, fInt1, fAdd, fMul, orF, fI, fIc, c1, c2, c3, c4, p1, p2, d1, d2, d3, e1, e2, e3, outF_same])
section
variable {P : Addr} {q : Str} {cs : List Int} {a b t many : Int} {e : PH}
theorem bag0 : fIx (.ref 1) (.int 0) (bagH P q cs a b t e) = some (.lst (cs.map PV.int), bagH P q cs a b t e) := by simp [fIx, asQ, asL, atI, ixN, bagH, bagO]
theorem bag1 : fIx (.ref 1) (.int 1) (bagH P q cs a b t e) = some (.int a, bagH P q cs a b t e) := by simp [fIx, asQ, asL, atI, ixN, bagH, bagO]
theorem bag2 : fIx (.ref 1) (.int 2) (bagH P q cs a b t e) = some (.int b, bagH P q cs a b t e) := by simp [fIx, asQ, asL, atI, ixN, bagH, bagO]
theorem bag3 : fIx (.ref 1) (.int 3) (bagH P q cs a b t e) = some (.int t, bagH P q cs a b t e) := by simp [fIx, asQ, asL, atI, ixN, bagH, bagO]
theorem set1 (x : Int) : fSetL (.ref 1) (.int 1) (.int x) (bagH P q cs a b t e) = some (bagH P q cs x b t e) := by simp [fSetL, ixN, bagH, bagO]
theorem set2 (x : Int) : fSetL (.ref 1) (.int 2) (.int x) (bagH P q cs a b t e) = some (bagH P q cs a x t e) := by simp [fSetL, ixN, bagH, bagO]
theorem set3 (x : Int) : fSetL (.ref 1) (.int 3) (.int x) (bagH P q cs a b t e) = some (bagH P q cs a b x e) := by simp [fSetL, ixN, bagH, bagO]
@[simp] theorem outF_bag (v : PV) : outF true (e.length + 2) v (bagH P q cs a b t e) = .ok v (bagH P q cs a b t e) := outF_same rfl
@[simp] theorem fAdd_int (f : Bool) (i j : Int) (h : PH) : fAdd f (.int i) (.int j) h = some (.int (i + j), h) := rfl
@[simp] theorem fInt_int (i : Int) (h : PH) : fInt [.int i] h = some (.int i, h) := rfl
theorem bag_len : (bagH P q cs a b t e).length = e.length + 2 := rfl
theorem draw_eq (h0 : 0 ≤ a) (hb : 0 ≤ b) (hm : 0 < many) (hm2 : many < 1073741824) (hcs : cs.length ≤ 1000) :
    ∃ v a' b' t', m__law_draw [.ref 1, .int many] (bagH P q cs a b t e) = .ok (.int v) (bagH P q cs a' b' t' e) ∧ 0 ≤ v ∧ v < many ∧ 0 ≤ a' ∧ 0 ≤ b' := by
  have md : ∀ x : Int, 0 ≤ x % many ∧ x % many < many := fun x => ⟨Int.emod_nonneg _ (by omega), Int.emod_lt_of_pos _ hm⟩
  have p : ∀ i, cPos i many = true := fun i => cPos_ok hm
  have d : ∀ i, cDiv i many = true := fun i => cDiv_ok hm hm2
  by_cases h1 : 0 < b
  · refine ⟨b % many, a, b / many, t + 1, mDef_run rfl ?_, (md b).1, (md b).2, h0, Int.ediv_nonneg hb (by omega)⟩
    simp [b__law_draw, mV, bag3, bag2, set3, set2, fI, fIc, h1, p, d, bag_len]
  · cases cs with
    | nil =>
      refine ⟨mix3 (mix2 (mix1 0 (t + 1))) % many, a, b, t + 1, mDef_run rfl ?_, (md _).1, (md _).2, h0, hb⟩
      have bg0 := bag0 (P := P) (q := q) (cs := []) (a := a) (b := b) (t := t + 1) (e := e)
      simp only [List.map_nil] at bg0
      simp [b__law_draw, mV, bag3, bag2, bg0, set3, fI, fIc, h1, fLen, asQ, asL, p, mixed_eq, bag_len]
    | cons c0 r =>
      have hl : (0 : Int) < (((c0 :: r).length : Nat) : Int) := by rw [List.length_cons]; omega
      have i1 : 0 ≤ a % (((c0 :: r).length : Nat) : Int) := Int.emod_nonneg _ (by omega)
      have i2 : a % (((c0 :: r).length : Nat) : Int) < (((c0 :: r).length : Nat) : Int) := Int.emod_lt_of_pos _ hl
      have hlt : (a % (((c0 :: r).length : Nat) : Int)).toNat < (c0 :: r).length := by omega
      have pl : cPos a (((c0 :: r).length : Nat) : Int) = true := cPos_ok hl
      obtain ⟨c, hc⟩ : ∃ c, (c0 :: r)[(a % (((c0 :: r).length : Nat) : Int)).toNat]? = some c := ⟨_, List.getElem?_eq_getElem hlt⟩
      have ix : fIx (.lst ((c0 :: r).map PV.int)) (.int (a % (((c0 :: r).length : Nat) : Int))) = fun h => some (.int c, h) := by
        funext h
        have e : ((c0 :: r).map PV.int)[(a % (((c0 :: r).length : Nat) : Int)).toNat]? = some (.int c) := by rw [List.getElem?_map, hc]; rfl
        simp only [fIx, asQ, asL, atI, ixN, List.length_map, if_pos i1, if_pos i2, Option.bind, e, Option.map]
      have ne0 : ¬ ((((c0 :: r).length : Nat) : Int) = 0) := by omega
      have bg0 := fun a b t => bag0 (P := P) (q := q) (cs := c0 :: r) (a := a) (b := b) (t := t) (e := e)
      have fl : ∀ h, fLen [.lst ((c0 :: r).map PV.int)] h = some (.int (((c0 :: r).length : Nat) : Int), h) := fun h => by simp only [fLen, asQ, asL, List.length_map]
      have pw : cPow 10 18 = true := by decide
      have ne1 : (c0 :: r) ≠ [] := List.cons_ne_nil _ _
      generalize hcl : (c0 :: r) = cl at *
      by_cases h2 : a < (cl.length : Int)
      · by_cases h3 : (1000000000000000000 : Int) ≤ (if c < 0 then -c else c)
        · have ab : 0 ≤ (if c < 0 then -c else c) := Int.le_trans (by decide) h3
          refine ⟨(if c < 0 then -c else c) % many, a + 1, (if c < 0 then -c else c) / many, t + 1, mDef_run rfl ?_, (md _).1, (md _).2, by omega, Int.ediv_nonneg ab (by omega)⟩
          simp [b__law_draw, mV, bag3, bag2, bag1, bg0, set3, set2, set1, fI, fIc, h1, h2, h3, fl, ix, ne1, pl, p, d, pw, fAbs, bag_len]
        · refine ⟨mix3 (mix2 (mix1 c (t + 1))) % many, a + 1, b, t + 1, mDef_run rfl ?_, (md _).1, (md _).2, by omega, hb⟩
          simp [b__law_draw, mV, bag3, bag2, bag1, bg0, set3, set1, fI, fIc, h1, h2, h3, fl, ix, ne1, pl, p, pw, fAbs, mixed_eq, bag_len]
      · refine ⟨mix3 (mix2 (mix1 c (t + 1))) % many, a + 1, b, t + 1, mDef_run rfl ?_, (md _).1, (md _).2, by omega, hb⟩
        simp [b__law_draw, mV, bag3, bag2, bag1, bg0, set3, set1, fI, fIc, h1, h2, fl, ix, ne1, pl, p, mixed_eq, bag_len]
end
end Ev
/-! P7: the bag made; plans drawn. -/
namespace Ev
open PySem PySem.Spec PyProof.Rows L2
theorem cut63 {α : Type} (xs : List α) (h : xs.length ≤ 63) : cutG xs none (some 63) = xs := by
  refine cut_whole ⟨HT.sIx_none _ _, ?_⟩
  have := HT.sIx_nat xs.length xs.length 63
  rw [show (some (63 : Int)) = some ((63 : Nat) : Int) from rfl, this]
  omega
theorem bag_eq (P : Addr) (q : Str) (ns : List Int) (hl : ns.length ≤ 63) : m__law_bag [.rol (ns.map PV.int)] [.tab P q] = .ok (.ref 1) (bagH P q ns 0 0 0 []) := mDef_run rfl (by
  have hc : cutG (ns.map PV.int) none (some 63) = ns.map PV.int := cut63 _ (by rw [List.length_map]; exact hl)
  have hs : mIt (mSl (fSl false) (mV 0) mNoPart (mPart (mC (.int 63)))) [some (.rol (ns.map PV.int)), none] [.tab P q] = .ok ⟨ns.map PV.int, fun _ => true⟩ [.tab P q] := by
    simp [mIt, mV, fSl, asL, hc, itSeq]
  have lc := mLc_pure (b := false) (own := [1]) (mi := mIt (mSl (fSl false) (mV 0) mNoPart (mPart (mC (.int 63))))) (t := .nm 1) (me := mCallB fInt (mCons (mV 1) mNil)) (ρ := [some (.rol (ns.map PV.int)), none]) (h := [.tab P q])
    (s := ⟨ns.map PV.int, fun _ => true⟩) PV.int PV.int ns hs rfl rfl (fun x _ => ⟨_, rfl, by simp [mV, wipeR]⟩) (by rw [sizeLine_eq]; omega)
  simp [b__law_bag, lc, sizeLine_eq, bagH, bagO, outF])
/-- a drawn step -/
def ok47 (y : Str × Int) : Bool := isW y.1 && decide (0 ≤ y.2) && decide (y.2 < 47)
theorem word_of (v : Int) (h0 : 0 ≤ v) (h2 : v < 2) (h : PH) : ∃ w, isW w = true ∧ fIx (.lst [.str "write", .str "drop"]) (.int v) h = some (.str w, h) := by
  have hv : v = 0 ∨ v = 1 := by omega
  rcases hv with rfl | rfl
  · exact ⟨"write", by decide, ix0 _ _ _⟩
  · exact ⟨"drop", by decide, ix1 _ _ _ _⟩
noncomputable abbrev drawnB : SM := mExpr (mMt "list" fAppend (mV 2) (mCons (mTup (mCons (mBin fIx (mLst false (mCons (mC (.str "write")) (mCons (mC (.str "drop")) mNil))) (mCall m__law_draw (mCons (mV 0) (mCons (mC (.int 2)) mNil)))) (mCons (mCall m__law_draw (mCons (mV 0) (mCons (mV 1) mNil))) mNil))) mNil))
theorem drawn_loop {P : Addr} {q : Str} {cs : List Int} {most : Int} (hcs : cs.length ≤ 1000) (hm0 : 0 < most) (hm : most ≤ 47) : ∀ (L : List PV) (ys : List (Str × Int)) (a b t : Int) (y : Option PV), 0 ≤ a → 0 ≤ b → ys.all ok47 = true → ys.length + L.length ≤ 1000 →
    ∃ (ys' : List (Str × Int)) (a' b' t' : Int) (y' : Option PV), forL (fun _ => true) (.nm 3) drawnB L [some (.ref 1), some (.int most), some (.ref 2), y] (bagH P q cs a b t [.lst (ys.map stP)]) = .nx [some (.ref 1), some (.int most), some (.ref 2), y'] (bagH P q cs a' b' t' [.lst (ys'.map stP)]) ∧
      0 ≤ a' ∧ 0 ≤ b' ∧ ys'.all ok47 = true ∧ ys'.length = ys.length + L.length
  | [], ys, a, b, t, y, ha, hb, hy, _ => ⟨ys, a, b, t, y, by simp [forL], ha, hb, hy, by simp⟩
  | x :: L, ys, a, b, t, y, ha, hb, hy, hl => by
    obtain ⟨v1, a1, b1, t1, e1, p1, p2, p3, p4⟩ := draw_eq (P := P) (q := q) (cs := cs) (a := a) (b := b) (t := t) (many := 2) (e := [.lst (ys.map stP)]) ha hb (by decide) (by decide) hcs
    obtain ⟨v2, a2, b2, t2, e2, q1, q2, q3, q4⟩ := draw_eq (P := P) (q := q) (cs := cs) (a := a1) (b := b1) (t := t1) (many := most) (e := [.lst (ys.map stP)]) p3 p4 hm0 (by omega) hcs
    obtain ⟨w, hw, ew⟩ := word_of v1 p1 p2 (bagH P q cs a1 b1 t1 [.lst (ys.map stP)])
    have hl' : ys.length < 16777216 := by simp at hl; omega
    obtain ⟨ys', a', b', t', y', e, r1, r2, r3, r4⟩ := drawn_loop hcs hm0 hm L (ys ++ [(w, v2)]) a2 b2 t2 (some x) q3 q4 (by rw [List.all_append, hy]; simp [ok47, hw, q1]; omega) (by simp at hl ⊢; omega)
    refine ⟨ys', a', b', t', y', ?_, r1, r2, r3, by rw [r4]; simp; omega⟩
    rw [← e]
    have s2 : (2 : Nat) ≤ 16777216 := by decide
    have g2 : ∀ a b t, (bagH P q cs a b t [.lst (ys.map stP)])[2]? = some (.lst (ys.map stP)) := fun _ _ _ => rfl
    have st : (bagH P q cs a2 b2 t2 [.lst (ys.map stP)]).set 2 (.lst (ys.map stP ++ [.tup [.str w, .int v2]])) = bagH P q cs a2 b2 t2 [.lst ((ys ++ [(w, v2)]).map stP)] := by simp [bagH, stP]
    simp [forL, mV, isT, isS, asL, g2, sizeLine_eq, e1, e2, ew, fAppend, hl', st]
theorem nrs_ints : ∀ cs : List Int, nrs (cs.map PV.int) = true
  | [] => rfl
  | c :: cs => by
    simp only [List.map_cons, nrs, nr, Bool.true_and]
    exact nrs_ints cs
theorem nrs_steps : ∀ ys : List (Str × Int), nrs (ys.map stP) = true
  | [] => rfl
  | y :: ys => by
    simp only [List.map_cons, nrs, Bool.and_eq_true]
    exact ⟨by simp [stP, nr, nrs], nrs_steps ys⟩
theorem bag_nr (P : Addr) (q : Str) (cs : List Int) (a b t : Int) : (bagH P q cs a b t []).all nrO = true := by
  simp [bagH, bagO, nrO, nrs, nr, nrs_ints]
theorem outF_out {P : Addr} {q : Str} {cs : List Int} {a b t : Int} {e : PH} {v : PV} (hv : nr v = true) : outF true 2 v (bagH P q cs a b t e) = .ok v (bagH P q cs a b t []) :=
  outF_nr (frz := true) (h := bagH P q cs a b t []) (e := e) (bag_nr P q cs a b t) hv
theorem cutG_map {α β : Type} (f : α → β) (xs : List α) (lo hi : Option Int) : cutG (xs.map f) lo hi = (cutG xs lo hi).map f := by
  unfold cutG
  rw [List.length_map, List.map_take, List.map_drop]
theorem cutG_all {α : Type} (p : α → Bool) (xs : List α) (lo hi : Option Int) (h : xs.all p = true) : (cutG xs lo hi).all p = true := by
  refine List.all_eq_true.mpr fun x hx => List.all_eq_true.mp h x ?_
  exact List.mem_of_mem_drop (List.mem_of_mem_take hx)
theorem cutG_len {α : Type} (xs : List α) (k : Nat) : (cutG xs none (some (k : Int))).length ≤ k := by
  unfold cutG
  rw [List.length_take, HT.sIx_nat]
  omega
theorem rep_all {α : Type} (p : α → Bool) (xs : List α) (n : Nat) (h : xs.all p = true) : ((List.replicate n xs).flatten).all p = true := by
  refine List.all_eq_true.mpr fun x hx => ?_
  obtain ⟨l, hl, hx⟩ := List.mem_flatten.mp hx
  rw [(List.mem_replicate.mp hl).2] at hx
  exact List.all_eq_true.mp h x hx
theorem rep_map {α β : Type} (f : α → β) (xs : List α) (n : Nat) : (List.replicate n (xs.map f)).flatten = ((List.replicate n xs).flatten).map f := by
  rw [List.map_flatten, List.map_replicate]
theorem most_of (v : Int) (h0 : 0 ≤ v) (h4 : v < 4) (h : PH) : ∃ m, 0 < m ∧ m ≤ 47 ∧ fIx (.lst [.int 40, .int 40, .int 40, .int 47]) (.int v) h = some (.int m, h) := by
  have hv : v = 0 ∨ v = 1 ∨ v = 2 ∨ v = 3 := by omega
  rcases hv with rfl | rfl | rfl | rfl
  · exact ⟨40, by decide, by decide, by simp [fIx, asQ, asL, atI, ixN]⟩
  · exact ⟨40, by decide, by decide, by simp [fIx, asQ, asL, atI, ixN]⟩
  · exact ⟨40, by decide, by decide, by simp [fIx, asQ, asL, atI, ixN]⟩
  · exact ⟨47, by decide, by decide, by simp [fIx, asQ, asL, atI, ixN]⟩
theorem few_of (v : Int) (h0 : 0 ≤ v) (h2 : v < 2) (h : PH) : ∃ m, 0 < m ∧ m ≤ 41 ∧ fIx (.lst [.int 4, .int 41]) (.int v) h = some (.int m, h) := by
  have hv : v = 0 ∨ v = 1 := by omega
  rcases hv with rfl | rfl
  · exact ⟨4, by decide, by decide, ix0 _ _ _⟩
  · exact ⟨41, by decide, by decide, ix1 _ _ _ _⟩
theorem drawn_eq {P : Addr} {q : Str} {cs : List Int} {a b t : Int} (hcs : cs.length ≤ 1000) (ha : 0 ≤ a) (hb : 0 ≤ b) :
    ∃ (ys : List (Str × Int)) (a' b' t' : Int), m__law_drawn [.ref 1] (bagH P q cs a b t []) = .ok (.tup (ys.map stP)) (bagH P q cs a' b' t' []) ∧ 0 ≤ a' ∧ 0 ≤ b' ∧ ys.all ok47 = true ∧ ys.length ≤ 2001 := by
  obtain ⟨v1, a1, b1, t1, e1, p1, q1, x1, y1⟩ := draw_eq (P := P) (q := q) (cs := cs) (a := a) (b := b) (t := t) (many := 4) (e := []) ha hb (by decide) (by decide) hcs
  obtain ⟨most, m1, m2, em⟩ := most_of v1 p1 q1 (bagH P q cs a1 b1 t1 [])
  obtain ⟨v2, a2, b2, t2, e2, p2, q2, x2, y2⟩ := draw_eq (P := P) (q := q) (cs := cs) (a := a1) (b := b1) (t := t1) (many := 2) (e := [.lst []]) x1 y1 (by decide) (by decide) hcs
  obtain ⟨few, f1, f2, ef⟩ := few_of v2 p2 q2 (bagH P q cs a2 b2 t2 [.lst []])
  obtain ⟨v3, a3, b3, t3, e3, p3, q3, x3, y3⟩ := draw_eq (P := P) (q := q) (cs := cs) (a := a2) (b := b2) (t := t2) (many := few) (e := [.lst []]) x2 y2 f1 (by omega) hcs
  obtain ⟨ys, a4, b4, t4, z, el, x4, y4, hy, hl⟩ := drawn_loop (P := P) (q := q) hcs m1 m2 ((List.range v3.toNat).map fun k => .int (0 + (k : Nat))) [] a3 b3 t3 none x3 y3 rfl (by simp; omega)
  have hl' : ys.length ≤ 41 := by rw [hl]; simp; omega
  obtain ⟨v5, a5, b5, t5, e5, p5, q5, x5, y5⟩ := draw_eq (P := P) (q := q) (cs := cs) (a := a4) (b := b4) (t := t4) (many := 12) (e := [.lst (ys.map stP)]) x4 y4 (by decide) (by decide) hcs
  have rg : -(2 ^ 62 : Int) ≤ v3 ∧ v3 < 2 ^ 62 := ⟨by omega, by omega⟩
  have ap : ∀ a b t, bagH P q cs a b t [] ++ [PO.lst []] = bagH P q cs a b t [.lst []] := fun _ _ _ => rfl
  have e0 : (fun k : Nat => PV.int (0 + (k : Int))) = fun k : Nat => PV.int (k : Int) := by funext k; rw [Int.zero_add]
  have el' := el
  rw [e0, List.map_nil] at el'
  unfold drawnB at el'
  have gl : ∀ a b t x, (bagH P q cs a b t [.lst x])[2]? = some (.lst x) := fun _ _ _ _ => rfl
  have it : itRange1 [.int v3] (bagH P q cs a3 b3 t3 [.lst []]) = .ok ⟨(List.range v3.toNat).map fun k => .int (0 + (k : Nat)), fun _ => true⟩ (bagH P q cs a3 b3 t3 [.lst []]) := by
    unfold itRange1
    exact if_pos rg
  rw [e0] at it
  have ln : fLen [.ref 2] (bagH P q cs a5 b5 t5 [.lst (ys.map stP)]) = some (.int ys.length, bagH P q cs a5 b5 t5 [.lst (ys.map stP)]) := by
    simp [fLen, asQ, asL, gl]
  have nv : nr (.tup (ys.map stP)) = true := by simp only [nr]; exact nrs_steps ys
  have tp : fTuple [.ref 2] (bagH P q cs a5 b5 t5 [.lst (ys.map stP)]) = some (.tup (ys.map stP), bagH P q cs a5 b5 t5 [.lst (ys.map stP)]) := by
    simp [fTuple, asQ, asL, gl]
  by_cases h5 : v5 = 0 ∧ 0 < ys.length
  · obtain ⟨v6, a6, b6, t6, e6, p6, q6, x6, y6⟩ := draw_eq (P := P) (q := q) (cs := cs) (a := a5) (b := b5) (t := t5) (many := 3) (e := [.lst (ys.map stP)]) x5 y5 (by decide) (by decide) hcs
    have k6 : ∃ k : Nat, 1999 + v6 = (k : Int) ∧ k ≤ 2001 := ⟨(1999 + v6).toNat, by omega, by omega⟩
    obtain ⟨k, hk, hk2⟩ := k6
    have rp : fMul false (.ref 2) (.int 2001) (bagH P q cs a5 b5 t5 [.lst (ys.map stP)]) = some (.lst (((List.replicate 2001 ys).flatten).map stP), bagH P q cs a5 b5 t5 [.lst (ys.map stP)]) := by
      have c1 : -(2 ^ 63 : Int) ≤ 2001 ∧ (2001 : Int) < 2 ^ 63 ∧ (ys.map stP).length * (2001 : Int).toNat ≤ sizeLine := ⟨by decide, by decide, by rw [List.length_map, sizeLine_eq]; have : (2001 : Int).toNat = 2001 := rfl; rw [this]; omega⟩
      show (match asM (bagH P q cs a5 b5 t5 [.lst (ys.map stP)]) (.ref 2), PV.int 2001 with
        | some xs, .int k => if -(2 ^ 63) ≤ k ∧ k < 2 ^ 63 ∧ xs.length * k.toNat ≤ sizeLine then some (newL false (List.replicate k.toNat xs).flatten (bagH P q cs a5 b5 t5 [.lst (ys.map stP)])) else none
        | _, _ => none) = _
      have am : asM (bagH P q cs a5 b5 t5 [.lst (ys.map stP)]) (.ref 2) = some (ys.map stP) := rfl
      rw [am]
      simp only [c1, and_self, if_true, ev_newL_f]
      rw [show (2001 : Int).toNat = 2001 from rfl, rep_map]
    have sl : ∀ H : PH, fSl true (.lst (((List.replicate 2001 ys).flatten).map stP)) none (some (1999 + v6)) H = some (.ref H.length, H ++ [.lst ((cutG (List.replicate 2001 ys).flatten none (some (1999 + v6))).map stP)]) := fun H => by
      simp only [fSl, asL, cutG_map, ev_newL_t]
    generalize hcut : cutG (List.replicate 2001 ys).flatten none (some (1999 + v6)) = cut at sl
    have cl1 : cut.length ≤ 2001 := by rw [← hcut, hk]; exact Nat.le_trans (cutG_len _ k) hk2
    have cl2 : cut.all ok47 = true := by rw [← hcut]; exact cutG_all _ _ _ _ (rep_all _ _ _ hy)
    generalize hbig : (List.replicate 2001 ys).flatten = big at rp sl hcut
    refine ⟨cut, a6, b6, t6, mDef_run rfl ?_, x6, y6, cl2, cl1⟩
    have nv2 : nr (.tup (cut.map stP)) = true := by simp only [nr]; exact nrs_steps cut
    have oo := outF_out (P := P) (q := q) (cs := cs) (a := a6) (b := b6) (t := t6) (e := [.lst (ys.map stP), .lst (cut.map stP)]) nv2
    have ap2 : bagH P q cs a6 b6 t6 [.lst (ys.map stP)] ++ [.lst (cut.map stP)] = bagH P q cs a6 b6 t6 [.lst (ys.map stP), .lst (cut.map stP)] := rfl
    have tp2 : fTuple [.ref 3] (bagH P q cs a6 b6 t6 [.lst (ys.map stP), .lst (cut.map stP)]) = some (.tup (cut.map stP), bagH P q cs a6 b6 t6 [.lst (ys.map stP), .lst (cut.map stP)]) := rfl
    have h8 : 0 < ys.length := h5.2
    simp [b__law_drawn, mV, e1, em, sizeLine_eq, bag_len, ap, mFor, mItA, e2, ef, e3, it, el', e5, h5.1, ln, fI, h8, rp, e6, sl, ap2, tp2, oo]
  · refine ⟨ys, a5, b5, t5, mDef_run rfl ?_, x5, y5, hy, by omega⟩
    have oo := outF_out (P := P) (q := q) (cs := cs) (a := a5) (b := b5) (t := t5) (e := [.lst (ys.map stP)]) nv
    by_cases h6 : v5 = 0
    · have h7 : ¬ 0 < ys.length := by omega
      simp [b__law_drawn, mV, e1, em, sizeLine_eq, bag_len, ap, mFor, mItA, e2, ef, e3, it, el', e5, h6, ln, fI, h7, tp, oo]
    · simp [b__law_drawn, mV, e1, em, sizeLine_eq, bag_len, ap, mFor, mItA, e2, ef, e3, it, el', e5, h6, tp, oo]
end Ev
/-! P8: plans read from texts. -/
namespace Ev
open PySem PySem.Spec PyProof.Rows L2
/-- a list's all but the last -/
theorem cut_init {α : Type} (xs : List α) : cutG xs none (some (-1)) = xs.dropLast := by
  unfold cutG
  rw [HT.sIx_none, List.drop_zero, Nat.sub_zero, List.dropLast_eq_take]
  congr 1
  unfold HT.sIx
  simp
  omega
theorem ix_last (xs : List PV) (x : PV) (h : PH) : fIx (.lst (xs ++ [x])) (.int (-1)) h = some (x, h) := by
  simp only [fIx, asQ, asL]
  rw [show atI (xs ++ [x]) (-1) = some x from atI_last _ _]
  rfl
theorem split_ne (x y : Str) : Txt.split x y ≠ [] := by
  unfold Txt.split
  split
  · simp
  · split
    · simp
    · rw [StrLaws.partsBetween_eq]
      obtain ⟨p, r, e⟩ := StrLaws.partsFrom_ne x y.length 0 (Builtin.Str.occurrences x y 0 x.length (x.length + 1))
      rw [e]
      simp
/-- the lines of a text: all but the last, and the last -/
theorem lines_eq {s : Str} (hl : s.length ≤ 1000000) (h : PH) : ∃ init last, Txt.split s "\n" = init ++ [last] ∧ m_lines_in [.str s] h = .ok (.tup [.lst (init.map PV.str), .str last]) h := by
  obtain ⟨init, last, e⟩ : ∃ init last, Txt.split s "\n" = init ++ [last] := ⟨_, _, (List.dropLast_concat_getLast (split_ne _ _)).symm⟩
  refine ⟨init, last, e, mDef_run rfl ?_⟩
  have sp := split_nl hl h
  rw [e] at sp
  have c := cut_init ((init ++ [last]).map PV.str)
  have c2 : ((init ++ [last]).map PV.str).dropLast = init.map PV.str := by rw [List.map_append, List.map_singleton, List.dropLast_concat]
  rw [c2] at c
  have il := ix_last (init.map PV.str) (.str last) h
  rw [List.map_append, List.map_singleton] at c sp
  simp [b_lines_in, mV, fIsi, tyN, isT, isS, sp, fNeg, fSl, asL, c, il, sizeLine_eq, outF_same]
/-- what is no text -/
theorem lines_bad {p : PV} (hk : pk p = true) (hs : ∀ s, p ≠ .str s) (h : PH) : m_lines_in [p] h = .ex "BadText" ["line"] [.int 0] h := mDef_run rfl (by
  cases p with
  | str s => exact absurd rfl (hs s)
  | _ => first | (simp [pk] at hk; done) | simp [b_lines_in, mV, fIsi, tyN, X_line.mRaise, PySem.FldX_line.fld, outX_same])
/-- the first bad line (counted from 1), and the steps ahead of it -/
def scan : List Str → Nat → Option Nat × List (Str × Int)
  | [], _ => (none, [])
  | l :: ls, k => match stepF l with
    | none => (some (k + 1), [])
    | some y => ((scan ls (k + 1)).1, y :: (scan ls (k + 1)).2)
noncomputable abbrev readB : SM := mSeq (mAsg (.nm 6) (mCall m_step_in (mCons (mV 5) mNil)))
  (mSeq (mIfS (tB_ (mBin fIsN (mV 6) (mC .non))) (X_line.mRaise "BadText" (mCons (mBin (fAdd false) (mV 4) (mC (.int 1))) mNil)) mPass)
  (mExpr (mMt "list" fAppend (mV 3) (mCons (mV 6) mNil))))
theorem app_get (h : PH) (o : PO) : (h ++ [o])[h.length]? = some o := by simp
theorem app_set (h : PH) (o o' : PO) : (h ++ [o]).set h.length o' = h ++ [o'] := by simp
theorem read_loop (h : PH) (x1 x2 x3 : PV) : ∀ (ls : List Str) (k : Nat) (acc : List (Str × Int)) (a b c : Option PV), (∀ l ∈ ls, l.length ≤ 1000000) → acc.length + ls.length ≤ 1000001 →
    ∃ (ρ' : Ro) (acc' : List (Str × Int)), forL (fun _ => true) (.tp [.nm 4, .nm 5]) readB (enumFrom k (ls.map PV.str)) [some x1, some x2, some x3, some (.ref h.length), a, b, c] (h ++ [.lst (acc.map stP)]) =
      (match (scan ls k).1 with
        | none => .nx ([some x1, some x2, some x3, some (.ref h.length)] ++ ρ') (h ++ [.lst ((acc ++ (scan ls k).2).map stP)])
        | some n => .ex "BadText" ["line"] [.int n] ([some x1, some x2, some x3, some (.ref h.length)] ++ ρ') (h ++ [.lst (acc'.map stP)]))
  | [], k, acc, a, b, c, _, _ => ⟨[a, b, c], acc, by simp [forL, enumFrom, scan]⟩
  | l :: ls, k, acc, a, b, c, hl, hn => by
    have e := stepin_eq (hl l List.mem_cons_self) (h ++ [.lst (acc.map stP)])
    have hz : acc.length < 16777216 := by simp at hn; omega
    cases hf : stepF l with
    | none =>
      rw [hf] at e
      refine ⟨[some (.int k), some (.str l), some .non], acc, ?_⟩
      simp [forL, enumFrom, scan, hf, mV, asg, asgs, asT, e, stepP, fIsN, isN, X_line.mRaise, PySem.FldX_line.fld]
    | some y =>
      rw [hf] at e
      obtain ⟨ρ', acc', ih⟩ := read_loop h x1 x2 x3 ls (k + 1) (acc ++ [y]) (some (.int k)) (some (.str l)) (some (stP y)) (fun z hz => hl z (List.mem_cons_of_mem _ hz)) (by simp at hn ⊢; omega)
      refine ⟨ρ', acc', ?_⟩
      have am : acc.map stP ++ [stP y] = (acc ++ [y]).map stP := by simp
      have ny : isN (stP y) = false := rfl
      have as : (acc ++ [y]) ++ (scan ls (k + 1)).2 = acc ++ (y :: (scan ls (k + 1)).2) := by simp
      rw [as, ← am] at ih
      simp only [scan, hf]
      rw [← ih]
      simp [forL, enumFrom, mV, asg, asgs, asT, e, stepP, fIsN, ny, isT, isS, asL, fAppend, sizeLine_eq, hz, app_get, app_set]
end Ev
/-! P9: read_plan. -/
namespace Ev
open PySem PySem.Spec PyProof.Rows L2
def initL (s : Str) : List Str := (Txt.split s "\n").dropLast
def lastL (s : Str) : Str := (Txt.split s "\n").getLast (split_ne _ _)
/-- what is read of a text, at the heap h -/
def readF (s : Str) (h : PH) : Out PV := match (scan (initL s) 0).1 with
  | some n => .ex "BadText" ["line"] [.int n] h
  | none => if lastL s ≠ "" then .ex "BadText" ["line"] [.int ((initL s).length + 1 : Nat)] h else
    if planB (.tup ((scan (initL s) 0).2.map stP)) = true then .ok (.tup ((scan (initL s) 0).2.map stP)) h else .ex "BadPlan" [] [] h
theorem read_eq {s : Str} (hl : s.length ≤ 1000000) (hn : (initL s).length ≤ 1000000) (h : PH) (hh : h.all nrO = true) : m_read_plan [.str s] h = readF s h := mDef_run rfl (by
  obtain ⟨init, last, e1, e2⟩ := lines_eq hl h
  have ei : initL s = init := by unfold initL; rw [e1, List.dropLast_concat]
  have el : lastL s = last := by unfold lastL; simp [e1]
  have hlen : ∀ l ∈ init, l.length ≤ 1000000 := fun l hm => Nat.le_trans (split_len s "\n" l (by rw [e1]; exact List.mem_append_left _ hm)) hl
  rw [ei] at hn
  obtain ⟨ρ', acc', lp⟩ := read_loop h (.str s) (.lst (init.map PV.str)) (.str last) init 0 [] none none none hlen (by simpa using (by omega : init.length ≤ 1000001))
  have en : itEnum [.lst (init.map PV.str)] (h ++ [.lst []]) = .ok ⟨enumFrom 0 (init.map PV.str), fun _ => true⟩ (h ++ [.lst []]) := rfl
  unfold readF
  rw [ei, el]
  cases hs : (scan init 0).1 with
  | some n =>
    rw [hs] at lp
    have oo := outX_nr (h := h) (e := [.lst (acc'.map stP)]) (c := "BadText") (fs := ["line"]) (xs := [.int n]) hh rfl
    simp only [List.map_nil] at lp
    unfold readB at lp
    simp [b_read_plan, mV, e2, asg, asgs, asT, sizeLine_eq, mFor, mItA, en, lp, oo]
  | none =>
    rw [hs] at lp
    simp only [List.map_nil, List.nil_append] at lp
    unfold readB at lp
    generalize (scan init 0).2 = ys at lp ⊢
    have ln : fLen [.lst (init.map PV.str)] (h ++ [.lst (ys.map stP)]) = some (.int init.length, h ++ [.lst (ys.map stP)]) := by simp [fLen, asQ, asL]
    have tp : fTuple [.ref h.length] (h ++ [.lst (ys.map stP)]) = some (.tup (ys.map stP), h ++ [.lst (ys.map stP)]) := by simp [fTuple, asQ, asL]
    by_cases h1 : last = ""
    · subst h1
      have c := check_eq (h := h ++ [.lst (ys.map stP)]) (stP_pk3 ys)
      cases hp : planB (.tup (ys.map stP)) with
      | true =>
        rw [hp, if_pos rfl] at c
        have nv : nr (.tup (ys.map stP)) = true := by simp only [nr]; exact nrs_steps ys
        have oo := outF_nr (frz := true) (h := h) (e := [.lst (ys.map stP)]) hh nv
        simp [b_read_plan, mV, e2, asg, asgs, asT, sizeLine_eq, mFor, mItA, en, lp, tp, c, oo]
      | false =>
        rw [hp, if_neg Bool.false_ne_true] at c
        have oo := outX_nr (h := h) (e := [.lst (ys.map stP)]) (c := "BadPlan") (fs := []) (xs := []) hh rfl
        simp [b_read_plan, mV, e2, asg, asgs, asT, sizeLine_eq, mFor, mItA, en, lp, tp, c, oo]
    · have oo := outX_nr (h := h) (e := [.lst (ys.map stP)]) (c := "BadText") (fs := ["line"]) (xs := [.int (init.length + 1)]) hh rfl
      simp [b_read_plan, mV, e2, asg, asgs, asT, sizeLine_eq, mFor, mItA, en, lp, h1, ln, X_line.mRaise, PySem.FldX_line.fld, oo])
end Ev
/-! P10: what is told of a call. -/
namespace Ev
open PySem PySem.Spec PyProof.Rows L2
theorem told_ok_ (p : PV) (h : PH) : toldO "read" zs__law_told 1 3 (.ok p h) = .ok (.tup [.str "read", p]) h := by
  simp [toldO, toldS, mV, List.replicate]
theorem told_plan (h : PH) : toldO "read" zs__law_told 1 3 (.ex "BadPlan" [] [] h) = .ok (.tup [.str "plan"]) h := by
  have u : unif (fun a d => (z1__law_told.su "BadPlan" [] a d (setRo [none, none, none] (.err a "BadPlan" d [] []) z1__law_told.nm) h).gone z1__law_told.nm) = .nx [none, some (.tup [.str "plan"]), none] h := unif_eq fun a d => by
    simp [z1__law_told, setRo, mV, sizeLine_eq, mErrI, SO.gone]
  have hd : hand "BadPlan" [] [] [none, none, none] h zs__law_told = .nx [none, some (.tup [.str "plan"]), none] h := by
    rw [← u]
    rfl
  simp [toldO, toldS, List.replicate, hd, mV]
theorem told_text (n : Int) (h : PH) : toldO "read" zs__law_told 1 3 (.ex "BadText" ["line"] [.int n] h) = .ok (.tup [.str "text", .int n]) h := by
  have u : unif (fun a d => (z0__law_told.su "BadText" ["line"] a d (setRo [none, none, none] (.err a "BadText" d ["line"] [.int n]) z0__law_told.nm) h).gone z0__law_told.nm) = .nx [none, some (.tup [.str "text", .int n]), none] h := unif_eq fun a d => by
    simp [z0__law_told, setRo, mV, sizeLine_eq, mErrI, mErrF, look, SO.gone]
  have hd : hand "BadText" ["line"] [.int n] [none, none, none] h zs__law_told = .nx [none, some (.tup [.str "text", .int n]), none] h := by
    rw [← u]
    rfl
  simp [toldO, toldS, List.replicate, hd, mV]
end Ev
/-! P11: a thing is the same as itself; loops by an invariant. -/
namespace Ev
open PySem PySem.Spec PyProof.Rows L2
def sameOk : Nat → PV → Bool
  | 0, _ => false
  | n + 1, .tup xs => xs.all (sameOk n) && decide (xs.length ≤ 1000000)
  | _ + 1, .str _ => true
  | _ + 1, .int _ => true
  | _ + 1, _ => false
theorem ix_tup (xs : List PV) (k : Nat) (hk : k < xs.length) (h : PH) : fIx (.tup xs) (.int (k : Int)) h = some (xs[k], h) := by
  have h0 : (0 : Int) ≤ k := by omega
  have h1 : (k : Int) < xs.length := by omega
  simp [fIx, asQ, asL, asT, atI, ixN, h1, hk]
theorem ix_lst (xs : List PV) (k : Nat) (hk : k < xs.length) (h : PH) : fIx (.lst xs) (.int (k : Int)) h = some (xs[k], h) := by
  have h0 : (0 : Int) ≤ k := by omega
  have h1 : (k : Int) < xs.length := by omega
  simp [fIx, asQ, asL, atI, ixN, h1, hk]
theorem range1_int (v : Int) (h0 : 0 ≤ v) (h1 : v < 1000000000) (h : PH) : itRange1 [.int v] h = .ok ⟨(List.range v.toNat).map fun k => .int (k : Nat), fun _ => true⟩ h := by
  have rg : -(2 ^ 62 : Int) ≤ v ∧ v < 2 ^ 62 := ⟨by omega, by omega⟩
  have e0 : (fun k : Nat => PV.int (0 + (k : Int))) = fun k : Nat => PV.int (k : Int) := by funext k; rw [Int.zero_add]
  rw [← e0]
  unfold itRange1
  exact if_pos rg
theorem range1_ok (n : Nat) (hn : n < 1000000000) (h : PH) : itRange1 [.int (n : Int)] h = .ok ⟨(List.range n).map fun k => .int (k : Nat), fun _ => true⟩ h := by
  have e := range1_int (n : Int) (by omega) (by omega) h
  rw [Int.toNat_natCast] at e
  exact e
theorem mItA_eq {f : List PV → PH → Out Its} {as : AM} {ρ : Ro} {h h1 : PH} {ps : List PV} (e : as ρ h = .ok ps h1) : mItA f as ρ h = f ps h1 := by
  unfold mItA
  rw [e]
  rfl
theorem same_step (g : DF) (xs : List PV) (h : PH) (hl : xs.length ≤ 1000000) (ih : ∀ x ∈ xs, g [x, x] h = .ok (.bl true) h) : mDef 2 3 true (b__law_is_same g) [.tup xs, .tup xs] h = .ok (.bl true) h := mDef_run rfl (by
    have ln : fLen [.tup xs] h = some (.int xs.length, h) := by simp [fLen, asQ, asL, asT]
    have hi : mItA itRange1 (mCons (mCallB fLen (mCons (mV 1) mNil)) mNil) [some (.tup xs), some (.tup xs), none] h = .ok ⟨(List.range xs.length).map fun k => .int (k : Nat), fun _ => true⟩ h :=
      (mItA_eq (ps := [.int xs.length]) (h1 := h) (by simp [mV, ln])).trans (range1_ok _ (by omega) h)
    have lc := mLc_pure (b := false) (own := [2]) (mi := mItA itRange1 (mCons (mCallB fLen (mCons (mV 1) mNil)) mNil)) (t := .nm 2) (me := mCall g (mCons (mBin fIx (mV 0) (mV 2)) (mCons (mBin fIx (mV 1) (mV 2)) mNil)))
      (ρ := [some (.tup xs), some (.tup xs), none]) (h := h) (fun k : Nat => .int (k : Int)) (fun _ => .bl true) (List.range xs.length) hi rfl rfl
      (fun k hk => ⟨_, rfl, by
        have hk' := List.mem_range.mp hk
        have ix := ix_tup xs k hk' h
        have i2 := ih xs[k] (List.getElem_mem hk')
        simp [mV, wipeR, ix, i2]⟩) (by rw [List.length_range, sizeLine_eq]; omega)
    have ea := fAll_bl (fun _ : Nat => true) (List.range xs.length) h
    simp [b__law_is_same, mV, fIsi, tyN, ln, lc, ea, outF_same])
theorem same_str (g : DF) (s : Str) (h : PH) : mDef 2 3 true (b__law_is_same g) [.str s, .str s] h = .ok (.bl true) h := mDef_run rfl (by simp [b__law_is_same, mV, fIsi, tyN, outF_same])
theorem same_int (g : DF) (s : Int) (h : PH) : mDef 2 3 true (b__law_is_same g) [.int s, .int s] h = .ok (.bl true) h := mDef_run rfl (by simp [b__law_is_same, mV, fIsi, tyN, outF_same])
theorem same_refl (n : Nat) : ∀ (x : PV) (h : PH), sameOk n x = true → m__law_is_same n [x, x] h = .ok (.bl true) h := by
  induction n with
  | zero => intro x h e; simp [sameOk] at e
  | succ n ih =>
    intro x h e
    cases x with
    | tup xs =>
      have e' : (xs.all (sameOk n) && decide (xs.length ≤ 1000000)) = true := e
      obtain ⟨e1, e2⟩ := Bool.and_eq_true_iff.mp e'
      exact same_step _ xs h (of_decide_eq_true e2) fun x hx => ih x h (List.all_eq_true.mp e1 x hx)
    | str s => exact same_str _ s h
    | int i => exact same_int _ i h
    | _ => simp [sameOk] at e
/-! ### statement by statement -/
theorem seq_nx {a b : SM} {ρ ρ1 : Ro} {h h1 : PH} (e : a ρ h = .nx ρ1 h1) : mSeq a b ρ h = b ρ1 h1 := by
  rw [ev_mSeq, e]
theorem seq_rt {a b : SM} {ρ : Ro} {v : PV} {h h1 : PH} (e : a ρ h = .rt v h1) : mSeq a b ρ h = .rt v h1 := by
  rw [ev_mSeq, e]
theorem seq_ex {a b : SM} {ρ ρ1 : Ro} {h h1 : PH} {c : Str} {fs : List Str} {xs : List PV} (e : a ρ h = .ex c fs xs ρ1 h1) : mSeq a b ρ h = .ex c fs xs ρ1 h1 := by
  rw [ev_mSeq, e]
theorem for_eq {mi : IMm} {t : Tg} {body : SM} {ρ : Ro} {h h1 : PH} {s : Its} {o : SO} (e : mi ρ h = .ok s h1) (k : forL s.chk t body s.items ρ h1 = o) : mFor mi t body ρ h = o := by
  unfold mFor
  rw [e]
  exact k
theorem def_rt {n sl : Nat} {frz : Bool} {body : SM} {ps : List PV} {h h1 : PH} {v : PV} {o : Out PV} (hl : ps.length = n) (hb : body (ps.map some ++ List.replicate (sl - n) none) h = .rt v h1) (ho : outF frz h.length v h1 = o) : mDef n sl frz body ps h = o :=
  mDef_run hl (by rw [hb]; exact ho)
theorem def_nx {n sl : Nat} {frz : Bool} {body : SM} {ps : List PV} {h h1 : PH} {ρ : Ro} {o : Out PV} (hl : ps.length = n) (hb : body (ps.map some ++ List.replicate (sl - n) none) h = .nx ρ h1) (ho : outF frz h.length .non h1 = o) : mDef n sl frz body ps h = o :=
  mDef_run hl (by rw [hb]; exact ho)
theorem def_ex {n sl : Nat} {frz : Bool} {body : SM} {ps : List PV} {h h1 : PH} {c : Str} {fs : List Str} {xs : List PV} {ρ : Ro} {o : Out PV} (hl : ps.length = n) (hb : body (ps.map some ++ List.replicate (sl - n) none) h = .ex c fs xs ρ h1) (ho : outX frz h.length c fs xs h1 = o) : mDef n sl frz body ps h = o :=
  mDef_run hl (by rw [hb]; exact ho)
/-- a loop by an invariant -/
theorem forL_inv {chk : PH → Bool} {t : Tg} {body : SM} (Inv : Ro → PH → Prop) (hc : ∀ ρ h, Inv ρ h → chk h = true) : ∀ (xs : List PV) (ρ : Ro) (h : PH), Inv ρ h →
    (∀ x ∈ xs, ∀ ρ h, Inv ρ h → ∃ ρ1 ρ2 h2, asg t x ρ = some ρ1 ∧ body ρ1 h = .nx ρ2 h2 ∧ Inv ρ2 h2) → ∃ ρ' h', forL chk t body xs ρ h = .nx ρ' h' ∧ Inv ρ' h'
  | [], ρ, h, hi, _ => ⟨ρ, h, by simp [forL, hc ρ h hi], hi⟩
  | x :: xs, ρ, h, hi, hx => by
    obtain ⟨ρ1, ρ2, h2, e1, e2, hi2⟩ := hx x List.mem_cons_self ρ h hi
    obtain ⟨ρ', h', e, hi'⟩ := forL_inv Inv hc xs ρ2 h2 hi2 fun y hy => hx y (List.mem_cons_of_mem _ hy)
    exact ⟨ρ', h', by simp only [forL, hc ρ h hi, if_true, e1, e2]; exact e, hi'⟩
end Ev
/-! P12: what is due of a text. -/
namespace Ev
open PySem PySem.Spec PyProof.Rows L2
noncomputable abbrev dueB : SM := mSeq (mAsg (.nm 4) (mCall m__law_step (mCons (mBin fIx (mV 1) (mV 3)) mNil)))
  (mSeq (mIfS (tB_ (mBin fIsN (mV 4) (mC .non))) (mRet (mTup (mCons (mC (.str "text")) (mCons (mBin (fAdd false) (mV 3) (mC (.int 1))) mNil)))) mPass)
  (mExpr (mMt "list" fAppend (mV 2) (mCons (mV 4) mNil))))
theorem due_loop (h : PH) (x0 : PV) (all : List Str) (last : Str) : ∀ (ls pre : List Str) (acc : List (Str × Int)) (a b : Option PV), all = pre ++ ls ++ [last] → (∀ l ∈ ls, l.length ≤ 1000000) → acc.length + ls.length ≤ 1000001 →
    ∃ (ρ' : Ro) (acc' : List (Str × Int)), forL (fun _ => true) (.nm 3) dueB ((List.range' pre.length ls.length).map fun k => .int (k : Nat)) [some x0, some (.lst (all.map PV.str)), some (.ref h.length), a, b] (h ++ [.lst (acc.map stP)]) =
      (match (scan ls pre.length).1 with
        | none => .nx ([some x0, some (.lst (all.map PV.str)), some (.ref h.length)] ++ ρ') (h ++ [.lst ((acc ++ (scan ls pre.length).2).map stP)])
        | some n => .rt (.tup [.str "text", .int n]) (h ++ [.lst (acc'.map stP)]))
  | [], pre, acc, a, b, _, _, _ => ⟨[a, b], acc, by simp [forL, scan]⟩
  | l :: ls, pre, acc, a, b, hall, hl, hn => by
    have e := lawstep_eq (hl l List.mem_cons_self) (h ++ [.lst (acc.map stP)])
    have hz : acc.length < 16777216 := by simp at hn; omega
    have hk : pre.length < all.length := by rw [hall]; simp
    have hk' : pre.length < (all.map PV.str).length := by rw [List.length_map]; exact hk
    have gl : (all.map PV.str)[pre.length] = .str l := by simp [hall]
    have ix := ix_lst (all.map PV.str) pre.length hk' (h ++ [.lst (acc.map stP)])
    rw [gl] at ix
    have ra : List.range' pre.length (l :: ls).length = pre.length :: List.range' (pre ++ [l]).length ls.length := by
      rw [List.length_cons, List.range'_succ, List.length_append]; rfl
    rw [ra, List.map_cons]
    have ss : (4096 : Nat) ≤ 16777216 := by decide
    cases hf : stepF l with
    | none =>
      rw [hf] at e
      refine ⟨[some (.int pre.length), some .non], acc, ?_⟩
      simp [forL, scan, hf, mV, ix, e, stepP, fIsN, isN, sizeLine_eq]
    | some y =>
      rw [hf] at e
      obtain ⟨ρ', acc', ih⟩ := due_loop h x0 all last ls (pre ++ [l]) (acc ++ [y]) (some (.int pre.length)) (some (stP y)) (by rw [hall]; simp) (fun z hz => hl z (List.mem_cons_of_mem _ hz)) (by simp at hn ⊢; omega)
      refine ⟨ρ', acc', ?_⟩
      have am : acc.map stP ++ [stP y] = (acc ++ [y]).map stP := by simp
      have ny : isN (stP y) = false := rfl
      have pl : (pre ++ [l]).length = pre.length + 1 := by simp
      rw [pl] at ih ⊢
      have as : (acc ++ [y]) ++ (scan ls (pre.length + 1)).2 = acc ++ (y :: (scan ls (pre.length + 1)).2) := by simp
      rw [as, ← am] at ih
      simp only [scan, hf]
      rw [← ih]
      simp [forL, mV, ix, e, stepP, fIsN, ny, isT, isS, asL, fAppend, sizeLine_eq, hz, app_get, app_set]
/-- what is due -/
def dueF (s : Str) : PV := match (scan (initL s) 0).1 with
  | some n => .tup [.str "text", .int n]
  | none => if lastL s ≠ "" then .tup [.str "text", .int ((initL s).length + 1 : Nat)] else
    if planB (.tup ((scan (initL s) 0).2.map stP)) = true then .tup [.str "read", .tup ((scan (initL s) 0).2.map stP)] else .tup [.str "plan"]
theorem due_eq {s : Str} (hl : s.length ≤ 1000000) (hn : (initL s).length ≤ 1000000) (h : PH) (hh : h.all nrO = true) : m__law_due [.str s] h = .ok (dueF s) h := by
  obtain ⟨init, last, e1, e2⟩ := lines_eq hl h
  have ei : initL s = init := by unfold initL; rw [e1, List.dropLast_concat]
  have el : lastL s = last := by unfold lastL; simp [e1]
  have hlen : ∀ l ∈ init, l.length ≤ 1000000 := fun l hm => Nat.le_trans (split_len s "\n" l (by rw [e1]; exact List.mem_append_left _ hm)) hl
  rw [ei] at hn
  have sp := fun h => split_nl hl h
  rw [e1] at sp
  obtain ⟨ρ', acc', lp⟩ := due_loop h (.str s) (init ++ [last]) last init [] [] none none (by simp) hlen (by simpa using (by omega : init.length ≤ 1000001))
  have ln : ∀ h, fLen [.lst ((init ++ [last]).map PV.str)] h = some (.int (init.length + 1 : Nat), h) := fun h => by simp [fLen, asQ, asL]
  have il := fun h => ix_last (init.map PV.str) (.str last) h
  have il2 : ∀ h, fIx (.lst ((init ++ [last]).map PV.str)) (.int (-1)) h = some (.str last, h) := fun h => by rw [List.map_append, List.map_singleton]; exact il h
  have rg := range1_ok init.length (by omega) (h ++ [.lst []])
  rw [List.range_eq_range'] at rg
  unfold dueF
  rw [ei, el]
  simp only [List.map_nil, List.length_nil] at lp
  generalize (init ++ [last]).map PV.str = allv at lp ln il2 sp
  have st1 : ∀ b, mSeq (mAsg (.nm 1) (mMt "str" (fSplit false) (mV 0) (mCons (mC (.str "\n")) mNil))) (mSeq (mAsg (.nm 2) (mLst true mNil)) b) [some (.str s), none, none, none, none] h = b [some (.str s), some (.lst allv), some (.ref h.length), none, none] (h ++ [.lst []]) := fun b => by
    simp [mV, isT, isS, sp, sizeLine_eq]
  have it : mItA itRange1 (mCons (mBin fSubI (mCallB fLen (mCons (mV 1) mNil)) (mC (.int 1))) mNil) [some (.str s), some (.lst allv), some (.ref h.length), none, none] (h ++ [.lst []]) = .ok ⟨(List.range' 0 init.length).map fun k => .int (k : Nat), fun _ => true⟩ (h ++ [.lst []]) := by
    have sb : ((init.length + 1 : Nat) : Int) - 1 = (init.length : Int) := by omega
    have e : mCons (mBin fSubI (mCallB fLen (mCons (mV 1) mNil)) (mC (.int 1))) mNil [some (.str s), some (.lst allv), some (.ref h.length), none, none] (h ++ [.lst []]) = .ok [.int (init.length : Int)] (h ++ [.lst []]) := by
      simp only [ev_mCons, ev_mNil, ev_mBin, ev_mCallB, ev_mC, mV, List.getElem?_cons_succ, List.getElem?_cons_zero, ev_bind_ok, ln, ev_opt_some, fI, sb]
    have z := mItA_eq (f := itRange1) e
    rw [rg] at z
    exact z
  have lp2 := for_eq (t := .nm 3) (body := dueB) it lp
  clear it lp rg
  cases hs : (scan init 0).1 with
  | some n =>
    rw [hs] at lp2
    have nv : nr (.tup [.str "text", .int n]) = true := rfl
    exact def_rt rfl ((st1 _).trans (seq_rt lp2)) (outF_nr (frz := true) (h := h) (e := [.lst (acc'.map stP)]) hh nv)
  | none =>
    rw [hs] at lp2
    simp only [List.nil_append, List.cons_append] at lp2
    generalize (scan init 0).2 = ys at lp2 ⊢
    have tp : fTuple [.ref h.length] (h ++ [.lst (ys.map stP)]) = some (.tup (ys.map stP), h ++ [.lst (ys.map stP)]) := by simp [fTuple, asQ, asL]
    by_cases h1 : last = ""
    · subst h1
      have c := isplan_eq (h := h ++ [.lst (ys.map stP)]) (stP_pk3 ys)
      cases hp : planB (.tup (ys.map stP)) with
      | true =>
        rw [hp] at c
        have nv : nr (.tup [.str "read", .tup (ys.map stP)]) = true := by simp [nr, nrs, nrs_steps ys]
        refine def_rt rfl ((st1 _).trans ((seq_nx lp2).trans ?_)) (outF_nr (frz := true) (h := h) (e := [.lst (ys.map stP)]) hh nv)
        simp [mV, fNeg, il2, tp, c, sizeLine_eq]
      | false =>
        rw [hp] at c
        have nv : nr (.tup [.str "plan"]) = true := rfl
        refine def_rt rfl ((st1 _).trans ((seq_nx lp2).trans ?_)) (outF_nr (frz := true) (h := h) (e := [.lst (ys.map stP)]) hh nv)
        simp [mV, fNeg, il2, tp, c, sizeLine_eq]
    · have nv : nr (.tup [.str "text", .int ((init.length + 1 : Nat) : Int)]) = true := rfl
      simp only [ne_eq, h1, not_false_eq_true, if_true]
      refine def_rt rfl ((st1 _).trans ((seq_nx lp2).trans ?_)) (outF_nr (frz := true) (h := h) (e := [.lst (ys.map stP)]) hh nv)
      simp [mV, fNeg, il2, h1, ln, sizeLine_eq]
end Ev
/-! P13: odd things, spoilt texts. -/
namespace Ev
open PySem PySem.Spec PyProof.Rows L2
/-- an item of a list, by a place within -/
theorem ix_in (xs : List PV) (v : Int) (h0 : 0 ≤ v) (h1 : v < xs.length) (h : PH) : ∃ p ∈ xs, fIx (.lst xs) (.int v) h = some (p, h) := by
  have hk : v.toNat < xs.length := by omega
  refine ⟨xs[v.toNat], List.getElem_mem hk, ?_⟩
  have e := ix_lst xs v.toNat hk h
  rw [show ((v.toNat : Nat) : Int) = v from by omega] at e
  exact e
theorem ix_sign (w : Str) (v : Int) (h0 : 0 ≤ v) (h1 : v < w.length) (hl : w.length ≤ 1000000) (h : PH) : ∃ z : Str, z.length = 1 ∧ fIx (.str w) (.int v) h = some (.str z, h) := by
  have hk : v.toNat < w.cps.toList.length := by rw [← len_tl]; omega
  have h1' : v < (w.cps.toList.length : Int) := by rw [← len_tl]; exact h1
  refine ⟨⟨#[w.cps.toList[v.toNat]]⟩, rfl, ?_⟩
  have hz : w.length ≤ 16777216 := by omega
  have ea : atI w.cps.toList v = some w.cps.toList[v.toNat] := by
    unfold atI ixN
    rw [if_pos h0, if_pos h1']
    exact List.getElem?_eq_getElem hk
  simp only [fIx, asQ, asL, asT, sizeLine_eq, hz, if_true, ea, Option.map]
theorem addL_ok (xs ys : List PV) (hl : xs.length + ys.length ≤ 3000000) (h : PH) : fAdd false (.lst xs) (.lst ys) h = some (.lst (xs ++ ys), h) := by
  have hz : xs.length + ys.length ≤ 16777216 := by omega
  simp [fAdd, orF, fI, fAddS, fAddT, asT, fAddL, asM, sizeLine_eq, hz]
theorem addT_ok (xs ys : List PV) (hl : xs.length + ys.length ≤ 3000000) (h : PH) : fAdd false (.tup xs) (.tup ys) h = some (.tup (xs ++ ys), h) := by
  have hz : xs.length + ys.length ≤ 16777216 := by omega
  simp [fAdd, orF, fI, fAddS, fAddT, asT, sizeLine_eq, hz]
theorem addS_ok (x y : Str) (hl : x.length + y.length ≤ 3000000) (h : PH) : fAdd false (.str x) (.str y) h = some (.str (x ++ y), h) := by
  have hz : x.length + y.length ≤ 16777216 := by omega
  simp [fAdd, orF, fI, fAddS, sizeLine_eq, hz]
def str1 : List PV := [.tup [.str "write", .int 40], .tup [.str "write", .int (-1)], .tup [.str "drop", .bl true], .tup [.str "drop", .non], .tup [.str "write", .str "3"], .lst [.str "write", .int 3], .tup [.str "write"]]
def str2 : List PV := [.tup [.str "Write", .int 3], .tup [.str "calm", .int 3], .tup [.int 3, .str "write"], .non, .int 7, .str "write 3", .tup [.str "write", .int 3, .int 3]]
def str3 : List PV := [.tup [.tup [], .int 3], .tup [.str "drop", .int 39]]
def strange : List PV := str1 ++ str2 ++ str3
theorem strange_ok : ∀ p ∈ strange, pk p = true ∧ pk2 p = true := by
  simp [strange, str1, str2, str3, pk, pk2]
theorem cutG_mem {α : Type} {xs : List α} {lo hi : Option Int} {x : α} (h : x ∈ cutG xs lo hi) : x ∈ xs := List.mem_of_mem_drop (List.mem_of_mem_take h)
theorem cutG_le {α : Type} (xs : List α) (lo hi : Option Int) : (cutG xs lo hi).length ≤ xs.length := by
  unfold cutG
  rw [List.length_take, List.length_drop]
  omega
section
variable {P : Addr} {q : Str} {cs : List Int} {a b t : Int}
theorem odd_eq {ys : List (Str × Int)} (hcs : cs.length ≤ 1000) (ha : 0 ≤ a) (hb : 0 ≤ b) (hy : ys.length ≤ 3000) :
    ∃ (p : PV) (a' b' t' : Int), m__law_odd [.ref 1, .tup (ys.map stP)] (bagH P q cs a b t []) = .ok p (bagH P q cs a' b' t' []) ∧ 0 ≤ a' ∧ 0 ≤ b' ∧ pk3 p = true := by
  obtain ⟨v1, a1, b1, t1, e1, x1, x2, x3, x4⟩ := draw_eq (P := P) (q := q) (cs := cs) (a := a) (b := b) (t := t) (many := ((ys.map stP).length : Int) + 1) (e := []) ha hb (by omega) (by rw [List.length_map]; omega) hcs
  obtain ⟨v2, a2, b2, t2, e2, y1, y2, y3, y4⟩ := draw_eq (P := P) (q := q) (cs := cs) (a := a1) (b := b1) (t := t1) (many := 3) (e := []) x3 x4 (by decide) (by decide) hcs
  have L1 := fun h => addL_ok str1 str2 (by decide) h
  have L2 := fun h => addL_ok (str1 ++ str2) str3 (by decide) h
  have S := strange_ok
  have SL : strange.length = 16 := rfl
  have ln : ∀ h, fLen [.tup (ys.map stP)] h = some (.int ((ys.map stP).length : Int), h) := fun h => by simp only [fLen, asQ, asL, asT]
  have hpk : ∀ x ∈ ys.map stP, pk x = true ∧ pk2 x = true := fun x hx => by
    obtain ⟨y, _, rfl⟩ := List.mem_map.mp hx
    exact ⟨rfl, rfl⟩
  have hyl : (ys.map stP).length ≤ 3000 := by rw [List.length_map]; exact hy
  generalize ys.map stP = zs at *
  by_cases h2 : v2 = 0
  · obtain ⟨v3, a3, b3, t3, e3, z1, z2, z3, z4⟩ := draw_eq (P := P) (q := q) (cs := cs) (a := a2) (b := b2) (t := t2) (many := 6) (e := []) y3 y4 (by decide) (by decide) hcs
    obtain ⟨p, hp, ip⟩ := ix_in [.lst zs, .non, .str "write 3\n", .int 5, .dct [] [], .tup [.tup zs, .tup zs]] v3 z1 (by simpa using z2) (bagH P q cs a3 b3 t3 [])
    refine ⟨p, a3, b3, t3, def_rt (h1 := bagH P q cs a3 b3 t3 []) rfl ?_ (outF_same rfl), z3, z4, ?_⟩
    · have li : ∀ h, fList false [.tup zs] h = some (.lst zs, h) := fun h => by simp [fList, asQ, asL, asT]
      show b__law_odd [some (.ref 1), some (.tup zs), none, none] (bagH P q cs a b t []) = _
      unfold b__law_odd
      refine (seq_nx (ρ1 := [some (.ref 1), some (.tup zs), some (.lst str1), none]) (h1 := bagH P q cs a b t []) (by simp [fNeg, sizeLine_eq, str1])).trans ?_
      refine (seq_nx (ρ1 := [some (.ref 1), some (.tup zs), some (.lst (str1 ++ str2)), none]) (h1 := bagH P q cs a b t []) ?_).trans ?_
      · have el : ∀ ρ h, (mLst false (mCons (mTup (mCons (mC (.str "Write")) (mCons (mC (.int 3)) mNil))) (mCons (mTup (mCons (mC (.str "calm")) (mCons (mC (.int 3)) mNil))) (mCons (mTup (mCons (mC (.int 3)) (mCons (mC (.str "write")) mNil))) (mCons (mC .non) (mCons (mC (.int 7)) (mCons (mC (.str "write 3")) (mCons (mTup (mCons (mC (.str "write")) (mCons (mC (.int 3)) (mCons (mC (.int 3)) mNil)))) mNil)))))))) ρ h = .ok (.lst str2) h := fun ρ h => by simp [sizeLine_eq, str2]
        simp only [ev_mAsg, ev_mBin, mV, List.getElem?_cons_succ, List.getElem?_cons_zero, ev_bind_ok, el, L1, ev_opt_some, ev_st_ok, ev_asg_nm, List.set_cons_succ, List.set_cons_zero]
      refine (seq_nx (ρ1 := [some (.ref 1), some (.tup zs), some (.lst strange), none]) (h1 := bagH P q cs a b t []) ?_).trans ?_
      · have el : ∀ ρ h, (mLst false (mCons (mTup (mCons (mTup mNil) (mCons (mC (.int 3)) mNil))) (mCons (mTup (mCons (mC (.str "drop")) (mCons (mC (.int 39)) mNil))) mNil))) ρ h = .ok (.lst str3) h := fun ρ h => by simp [sizeLine_eq, str3]
        simp only [ev_mAsg, ev_mBin, mV, List.getElem?_cons_succ, List.getElem?_cons_zero, ev_bind_ok, el, L2, ev_opt_some, ev_st_ok, ev_asg_nm, List.set_cons_succ, List.set_cons_zero, strange]
      simp [ln, e1, e2, h2, li, mDct0, e3, ip, sizeLine_eq, mV]
    · have : ∀ p ∈ [PV.lst zs, .non, .str "write 3\n", .int 5, .dct [] [], .tup [.tup zs, .tup zs]], pk3 p = true := by
        have hz : ∀ x ∈ zs, pk x = true := fun x hx => (hpk x hx).1
        simp [pk3, pk, pk2]
        exact hz
      exact this p hp
  · obtain ⟨v3, a3, b3, t3, e3, z1, z2, z3, z4⟩ := draw_eq (P := P) (q := q) (cs := cs) (a := a2) (b := b2) (t := t2) (many := 16) (e := []) y3 y4 (by decide) (by decide) hcs
    obtain ⟨p, hp, ip⟩ := ix_in strange v3 z1 (by rw [SL]; simpa using z2) (bagH P q cs a3 b3 t3 [])
    have c1 := cutG_le zs none (some v1)
    have c2 := cutG_le zs (some (v1 + 1)) none
    have m1 := fun x (hx : x ∈ cutG zs none (some v1)) => hpk x (cutG_mem hx)
    have m2 := fun x (hx : x ∈ cutG zs (some (v1 + 1)) none) => hpk x (cutG_mem hx)
    have sl : ∀ lo hi h, fSl false (.tup zs) lo hi h = some (.tup (cutG zs lo hi), h) := fun lo hi h => by simp only [fSl, asL]
    refine ⟨.tup (cutG zs none (some v1) ++ [p] ++ cutG zs (some (v1 + 1)) none), a3, b3, t3, def_rt (h1 := bagH P q cs a3 b3 t3 []) rfl ?_ (outF_same rfl), z3, z4, ?_⟩
    · have T1 := fun h => addT_ok (cutG zs none (some v1)) [p] (by simp; omega) h
      have T2 := fun h => addT_ok (cutG zs none (some v1) ++ [p]) (cutG zs (some (v1 + 1)) none) (by simp; omega) h
      show b__law_odd [some (.ref 1), some (.tup zs), none, none] (bagH P q cs a b t []) = _
      unfold b__law_odd
      refine (seq_nx (ρ1 := [some (.ref 1), some (.tup zs), some (.lst str1), none]) (h1 := bagH P q cs a b t []) (by simp [fNeg, sizeLine_eq, str1])).trans ?_
      refine (seq_nx (ρ1 := [some (.ref 1), some (.tup zs), some (.lst (str1 ++ str2)), none]) (h1 := bagH P q cs a b t []) ?_).trans ?_
      · have el : ∀ ρ h, (mLst false (mCons (mTup (mCons (mC (.str "Write")) (mCons (mC (.int 3)) mNil))) (mCons (mTup (mCons (mC (.str "calm")) (mCons (mC (.int 3)) mNil))) (mCons (mTup (mCons (mC (.int 3)) (mCons (mC (.str "write")) mNil))) (mCons (mC .non) (mCons (mC (.int 7)) (mCons (mC (.str "write 3")) (mCons (mTup (mCons (mC (.str "write")) (mCons (mC (.int 3)) (mCons (mC (.int 3)) mNil)))) mNil)))))))) ρ h = .ok (.lst str2) h := fun ρ h => by simp [sizeLine_eq, str2]
        simp only [ev_mAsg, ev_mBin, mV, List.getElem?_cons_succ, List.getElem?_cons_zero, ev_bind_ok, el, L1, ev_opt_some, ev_st_ok, ev_asg_nm, List.set_cons_succ, List.set_cons_zero]
      refine (seq_nx (ρ1 := [some (.ref 1), some (.tup zs), some (.lst strange), none]) (h1 := bagH P q cs a b t []) ?_).trans ?_
      · have el : ∀ ρ h, (mLst false (mCons (mTup (mCons (mTup mNil) (mCons (mC (.int 3)) mNil))) (mCons (mTup (mCons (mC (.str "drop")) (mCons (mC (.int 39)) mNil))) mNil))) ρ h = .ok (.lst str3) h := fun ρ h => by simp [sizeLine_eq, str3]
        simp only [ev_mAsg, ev_mBin, mV, List.getElem?_cons_succ, List.getElem?_cons_zero, ev_bind_ok, el, L2, ev_opt_some, ev_st_ok, ev_asg_nm, List.set_cons_succ, List.set_cons_zero, strange]
      simp [ln, e1, e2, h2, e3, ip, sizeLine_eq, mV, sl, T1, T2]
    · have k := S p hp
      simp only [pk3, pk, Bool.true_and]
      refine List.all_eq_true.mpr fun x hx => ?_
      rw [Bool.and_eq_true_iff]
      rcases List.mem_append.mp hx with hx | hx
      · rcases List.mem_append.mp hx with hx | hx
        · exact m1 x hx
        · rw [List.mem_singleton.mp hx]; exact k
      · exact m2 x hx
end
end Ev
/-! P14: spoilt texts. -/
namespace Ev
open PySem PySem.Spec PyProof.Rows L2
/-- a list of texts as one, each with a separator -/
def wide (ps : List Str) : Nat := (ps.map fun p => p.length + 1).sum
theorem wide_cons (p : Str) (ps : List Str) : wide (p :: ps) = p.length + 1 + wide ps := by simp [wide]
theorem wide_app (ps qs : List Str) : wide (ps ++ qs) = wide ps + wide qs := by simp [wide]
theorem wide_len (ps : List Str) : ps.length ≤ wide ps := by
  induction ps with
  | nil => exact Nat.le_refl _
  | cons p ps ih => rw [wide_cons, List.length_cons]; omega
theorem wide_sub (ps : List Str) (lo hi : Option Int) : wide (cutG ps lo hi) ≤ wide ps := by
  have td : ∀ (n : Nat) (xs : List Str), wide (xs.drop n) ≤ wide xs := fun n xs => by
    have := congrArg wide (List.take_append_drop n xs)
    rw [wide_app] at this
    omega
  have tt : ∀ (n : Nat) (xs : List Str), wide (xs.take n) ≤ wide xs := fun n xs => by
    have := congrArg wide (List.take_append_drop n xs)
    rw [wide_app] at this
    omega
  unfold cutG
  exact Nat.le_trans (tt _ _) (td _ _)
theorem join_wide (y : Str) (hy : y.length = 1) : ∀ ps : List Str, ps ≠ [] → (Txt.join y ps).length + 1 = wide ps
  | [], h => absurd rfl h
  | [p], _ => by
    rw [TL.join_eq]
    show p.length + 1 = _
    simp [wide]
  | p :: z :: r, _ => by
    have ih := join_wide y hy (z :: r) (by simp)
    rw [TL.join_eq] at ih ⊢
    have e : Str.join y (p :: z :: r) = p ++ y ++ Str.join y (z :: r) := rfl
    rw [e, len_add, len_add, wide_cons, ← ih, hy]
    omega
theorem split_wide (s y : Str) (hy : y.length = 1) : wide (Txt.split s y) = s.length + 1 := by
  have e := join_wide y hy _ (split_ne s y)
  have e2 : Txt.join y (Txt.split s y) = s := by rw [TL.join_eq]; exact StrLaws.join_split s y
  rw [e2] at e
  exact e.symm
theorem nl_len : ("\n" : Str).length = 1 := rfl
theorem join_ok (ps : List Str) (hw : wide ps ≤ 3000000) (h : PH) : fJoin (.str "\n") [.lst (ps.map PV.str)] h = some (.str (Txt.join "\n" ps), h) ∧ (Txt.join "\n" ps).length ≤ wide ps := by
  have e : (ps.map (·.length)).sum + ps.length * ("\n" : Str).length = wide ps := by
    rw [nl_len]
    induction ps with
    | nil => rfl
    | cons p ps ih =>
      rw [wide_cons] at hw ⊢
      have := ih (by omega)
      simp
      omega
  refine ⟨?_, ?_⟩
  · have hz : wide ps ≤ 16777216 := by omega
    simp only [fJoin, asQ, asL, Option.bind, asSs_map, e, hz, if_true]
  · cases ps with
    | nil => exact Nat.le_refl 0
    | cons p ps =>
      have := join_wide "\n" nl_len (p :: ps) (by simp)
      omega
theorem sl_str_ok (s : Str) (hs : s.length ≤ 1000000) (lo hi : Option Int) (h : PH) : fSl false (.str s) lo hi h = some (.str (cutS s lo hi), h) := by
  have hz : s.length ≤ 16777216 := by omega
  simp only [fSl, asL, sizeLine_eq, hz, if_true]
theorem sl_lst (xs : List PV) (lo hi : Option Int) (h : PH) : fSl false (.lst xs) lo hi h = some (.lst (cutG xs lo hi), h) := by
  simp only [fSl, asL, ev_newL_f]
def signs : Str := "0123456789 \nwritedopx-"
def more1 : List Str := ["", "write", "drop 00", "write 40", "write 999999999", "write 1000000000", "drop 3 ", " drop 3"]
def more2 : List Str := ["drop  3", "Drop 3"]
section
variable {P : Addr} {q : Str} {cs : List Int} {a b t : Int}
theorem spoilt_eq {s : Str} (hcs : cs.length ≤ 1000) (ha : 0 ≤ a) (hb : 0 ≤ b) (hs : s.length ≤ 400000) :
    ∃ (s' : Str) (a' b' t' : Int), m__law_spoilt [.ref 1, .str s] (bagH P q cs a b t []) = .ok (.str s') (bagH P q cs a' b' t' []) ∧ 0 ≤ a' ∧ 0 ≤ b' ∧ s'.length ≤ 2 * s.length + 100 := by
  have hz : s.length ≤ 16777216 := by omega
  have sgl : signs.length = 22 := rfl
  obtain ⟨v1, a1, b1, t1, e1, x1, x2, x3, x4⟩ := draw_eq (P := P) (q := q) (cs := cs) (a := a) (b := b) (t := t) (many := 22) (e := []) ha hb (by decide) (by decide) hcs
  obtain ⟨z, hz1, ez⟩ := ix_sign signs v1 x1 (by rw [sgl]; exact x2) (by rw [sgl]; decide) (bagH P q cs a1 b1 t1 [])
  obtain ⟨v2, a2, b2, t2, e2, y1, y2, y3, y4⟩ := draw_eq (P := P) (q := q) (cs := cs) (a := a1) (b := b1) (t := t1) (many := (s.length : Int) + 1) (e := []) x3 x4 (by omega) (by omega) hcs
  obtain ⟨v3, a3, b3, t3, e3, u1, u2, u3, u4⟩ := draw_eq (P := P) (q := q) (cs := cs) (a := a2) (b := b2) (t := t2) (many := 8) (e := []) y3 y4 (by decide) (by decide) hcs
  have lsg : ∀ h, fLen [.str signs] h = some (.int 22, h) := fun h => by
    have h22 : signs.length ≤ 16777216 := by rw [sgl]; decide
    simp [fLen, asQ, asL, asT, sizeLine_eq, h22]
    rw [sgl]; rfl
  have ls : ∀ h, fLen [.str s] h = some (.int (s.length : Int), h) := fun h => by simp [fLen, asQ, asL, asT, sizeLine_eq, hz]
  have ss := fun lo hi h => sl_str_ok s (by omega) lo hi h
  have esg : ("0123456789 \nwritedopx-" : Str) = signs := rfl
  by_cases k2 : v3 < 2
  · have c1 := cutS_length s none (some v2)
    have c2 := cutS_length s (some v2) none
    refine ⟨cutS s none (some v2) ++ z ++ cutS s (some v2) none, a3, b3, t3, def_rt (h1 := bagH P q cs a3 b3 t3 []) rfl ?_ (outF_same rfl), u3, u4, by rw [len_add, len_add]; omega⟩
    have A1 := fun h => addS_ok (cutS s none (some v2)) z (by omega) h
    have A2 := fun h => addS_ok (cutS s none (some v2) ++ z) (cutS s (some v2) none) (by rw [len_add]; omega) h
    simp [b__law_spoilt, mV, esg, lsg, e1, ez, ls, e2, e3, fI, k2, ss, A1, A2]
  · by_cases k4 : v3 < 4
    · have c1 := cutS_length s none (some v2)
      have c2 := cutS_length s (some (v2 + 1)) none
      refine ⟨cutS s none (some v2) ++ cutS s (some (v2 + 1)) none, a3, b3, t3, def_rt (h1 := bagH P q cs a3 b3 t3 []) rfl ?_ (outF_same rfl), u3, u4, by rw [len_add]; omega⟩
      have A1 := fun h => addS_ok (cutS s none (some v2)) (cutS s (some (v2 + 1)) none) (by omega) h
      simp [b__law_spoilt, mV, esg, lsg, e1, ez, ls, e2, e3, fI, k2, k4, ss, A1]
    · by_cases k5 : v3 = 4
      · have c1 := cutS_length s none (some v2)
        have c2 := cutS_length s (some (v2 + 1)) none
        refine ⟨cutS s none (some v2) ++ z ++ cutS s (some (v2 + 1)) none, a3, b3, t3, def_rt (h1 := bagH P q cs a3 b3 t3 []) rfl ?_ (outF_same rfl), u3, u4, by rw [len_add, len_add]; omega⟩
        have A1 := fun h => addS_ok (cutS s none (some v2)) z (by omega) h
        have A2 := fun h => addS_ok (cutS s none (some v2) ++ z) (cutS s (some (v2 + 1)) none) (by rw [len_add]; omega) h
        simp [b__law_spoilt, mV, esg, lsg, e1, ez, ls, e2, e3, fI, k5, ss, A1, A2]
      · have sp := fun h => split_nl (l := s) (by omega) h
        have sw := split_wide s "\n" nl_len
        have sne := split_ne s "\n"
        generalize Txt.split s "\n" = ls' at *
        have wl := wide_len ls'
        have lpos : 0 < ls'.length := List.length_pos_iff.mpr sne
        obtain ⟨v4, a4, b4, t4, e4, w1, w2, w3, w4⟩ := draw_eq (P := P) (q := q) (cs := cs) (a := a3) (b := b3) (t := t3) (many := (ls'.length : Int)) (e := []) u3 u4 (by omega) (by omega) hcs
        have ll : ∀ h, fLen [.lst (ls'.map PV.str)] h = some (.int (ls'.length : Int), h) := fun h => by simp [fLen, asQ, asL]
        have sl := fun lo hi h => sl_lst (ls'.map PV.str) lo hi h
        simp only [cutG_map] at sl
        by_cases k6 : v3 = 5
        · have d1 := wide_sub ls' none (some v4)
          have d2 := wide_sub ls' (some (v4 + 1)) none
          have g1 := cutG_le ls' none (some v4)
          have g2 := cutG_le ls' (some (v4 + 1)) none
          have j1' := fun h => (join_ok (cutG ls' none (some v4) ++ cutG ls' (some (v4 + 1)) none) (by rw [wide_app]; omega) h).1
          have j2' := (join_ok (cutG ls' none (some v4) ++ cutG ls' (some (v4 + 1)) none) (by rw [wide_app]; omega) []).2
          rw [wide_app] at j2'
          refine ⟨_, a4, b4, t4, def_rt (h1 := bagH P q cs a4 b4 t4 []) rfl ?_ (outF_same rfl), w3, w4, Nat.le_trans j2' (by omega)⟩
          have A1 := fun h => addL_ok ((cutG ls' none (some v4)).map PV.str) ((cutG ls' (some (v4 + 1)) none).map PV.str) (by rw [List.length_map, List.length_map]; omega) h
          simp only [List.map_append, List.map_cons, List.map_nil, List.append_assoc, List.cons_append, List.nil_append] at j1'
          simp [b__law_spoilt, mV, esg, lsg, e1, ez, ls, e2, e3, fI, k6, isT, isS, sp, ll, e4, sl, A1, j1']
        · obtain ⟨v5, a5, b5, t5, e5, m1, m2, m3, m4⟩ := draw_eq (P := P) (q := q) (cs := cs) (a := a4) (b := b4) (t := t4) (many := 10) (e := []) w3 w4 (by decide) (by decide) hcs
          obtain ⟨p, hp, ip⟩ := ix_in ((more1 ++ more2).map PV.str) v5 m1 m2 (bagH P q cs a5 b5 t5 [])
          obtain ⟨one, ho, rfl⟩ := List.mem_map.mp hp
          have hol : one.length ≤ 16 := by
            have : ∀ o ∈ more1 ++ more2, o.length ≤ 16 := by decide
            exact this one ho
          have AM := fun h => addL_ok (more1.map PV.str) (more2.map PV.str) (by decide) h
          rw [← List.map_append] at AM
          generalize (more1 ++ more2).map PV.str = mo at AM ip
          have d1 := wide_sub ls' none (some v4)
          have d2 := wide_sub ls' (some v4) none
          have g1 := cutG_le ls' none (some v4)
          have g2 := cutG_le ls' (some v4) none
          have w1' : wide [one] = one.length + 1 := by simp [wide]
          have jj := fun h => join_ok (cutG ls' none (some v4) ++ [one] ++ cutG ls' (some v4) none) (by rw [wide_app, wide_app, w1']; omega) h
          have j1' := fun h => (jj h).1
          have j2' := (jj []).2
          rw [wide_app, wide_app, w1'] at j2'
          refine ⟨_, a5, b5, t5, def_rt (h1 := bagH P q cs a5 b5 t5 []) rfl ?_ (outF_same rfl), m3, m4, Nat.le_trans j2' (by omega)⟩
          have A1 := fun h => addL_ok ((cutG ls' none (some v4)).map PV.str) ([one].map PV.str) (by rw [List.length_map, List.length_map]; simp; omega) h
          have A2 := fun h => addL_ok ((cutG ls' none (some v4) ++ [one]).map PV.str) ((cutG ls' (some v4) none).map PV.str) (by rw [List.length_map, List.length_map]; simp; omega) h
          simp only [List.map_append, List.map_cons, List.map_nil, List.append_assoc, List.cons_append, List.nil_append] at A1 A2 j1'
          have em1 : [PV.str "", .str "write", .str "drop 00", .str "write 40", .str "write 999999999", .str "write 1000000000", .str "drop 3 ", .str " drop 3"] = more1.map PV.str := rfl
          have em2 : [PV.str "drop  3", .str "Drop 3"] = more2.map PV.str := rfl
          have eo : [PV.str one] = [one].map PV.str := rfl
          have ml1 : more1.length ≤ 16777216 := by decide
          have ml2 : more2.length ≤ 16777216 := by decide
          show b__law_spoilt [some (.ref 1), some (.str s), none, none, none, none, none, none, none] (bagH P q cs a b t []) = _
          unfold b__law_spoilt
          refine (seq_nx (ρ1 := [some (.ref 1), some (.str s), some (.str signs), none, none, none, none, none, none]) (h1 := bagH P q cs a b t []) (by simp [mV, esg])).trans ?_
          refine (seq_nx (ρ1 := [some (.ref 1), some (.str s), some (.str signs), some (.str z), none, none, none, none, none]) (h1 := bagH P q cs a1 b1 t1 []) (by simp [mV, lsg, e1, ez])).trans ?_
          refine (seq_nx (ρ1 := [some (.ref 1), some (.str s), some (.str signs), some (.str z), some (.int v2), none, none, none, none]) (h1 := bagH P q cs a2 b2 t2 []) (by simp [mV, ls, e2])).trans ?_
          refine (seq_nx (ρ1 := [some (.ref 1), some (.str s), some (.str signs), some (.str z), some (.int v2), some (.int v3), none, none, none]) (h1 := bagH P q cs a3 b3 t3 []) (by simp [mV, e3])).trans ?_
          refine (seq_nx (ρ1 := [some (.ref 1), some (.str s), some (.str signs), some (.str z), some (.int v2), some (.int v3), none, none, none]) (h1 := bagH P q cs a3 b3 t3 []) (by simp [mV, fI, k2])).trans ?_
          refine (seq_nx (ρ1 := [some (.ref 1), some (.str s), some (.str signs), some (.str z), some (.int v2), some (.int v3), none, none, none]) (h1 := bagH P q cs a3 b3 t3 []) (by simp [mV, fI, k4])).trans ?_
          refine (seq_nx (ρ1 := [some (.ref 1), some (.str s), some (.str signs), some (.str z), some (.int v2), some (.int v3), none, none, none]) (h1 := bagH P q cs a3 b3 t3 []) (by simp [mV, k5])).trans ?_
          refine (seq_nx (ρ1 := [some (.ref 1), some (.str s), some (.str signs), some (.str z), some (.int v2), some (.int v3), some (.lst (ls'.map PV.str)), none, none]) (h1 := bagH P q cs a3 b3 t3 []) (by simp [mV, isT, isS, sp])).trans ?_
          refine (seq_nx (ρ1 := [some (.ref 1), some (.str s), some (.str signs), some (.str z), some (.int v2), some (.int v3), some (.lst (ls'.map PV.str)), some (.int v4), none]) (h1 := bagH P q cs a4 b4 t4 []) (by simp [mV, ll, e4])).trans ?_
          refine (seq_nx (ρ1 := [some (.ref 1), some (.str s), some (.str signs), some (.str z), some (.int v2), some (.int v3), some (.lst (ls'.map PV.str)), some (.int v4), none]) (h1 := bagH P q cs a4 b4 t4 []) (by simp [mV, k6])).trans ?_
          refine (seq_nx (ρ1 := [some (.ref 1), some (.str s), some (.str signs), some (.str z), some (.int v2), some (.int v3), some (.lst (ls'.map PV.str)), some (.int v4), some (.lst (more1.map PV.str))]) (h1 := bagH P q cs a4 b4 t4 []) (by simp [mV, sizeLine_eq, more1])).trans ?_
          refine (seq_nx (ρ1 := [some (.ref 1), some (.str s), some (.str signs), some (.str z), some (.int v2), some (.int v3), some (.lst (ls'.map PV.str)), some (.int v4), some (.lst mo)]) (h1 := bagH P q cs a4 b4 t4 []) (by simp [mV, sizeLine_eq, em2, ml2, AM])).trans ?_
          simp [mV, isT, isS, sl, e5, ip, sizeLine_eq, A1, A2, j1']
end
end Ev
/-! P15: texts read back. -/
namespace Ev
open PySem PySem.Spec PyProof.Rows L2
/-! ### numbers -/
theorem numS_tl (n : Nat) : TL.tl (numS (n : Int)) = TL.numL n := TL.tl_num n
theorem numL_head : ∀ n : Nat, 10 ≤ n → (TL.numL n).head? ≠ some 48 := by
  intro n
  induction n using Nat.strongRecOn with
  | _ n ih =>
    intro hn
    rw [TL.numL_step hn]
    by_cases h : n / 10 < 10
    · rw [TL.numL_lt h]
      simp
      omega
    · have := ih (n / 10) (by omega) (by omega)
      cases e : TL.numL (n / 10) with
      | nil => exact absurd e (TL.numL_ne _)
      | cons c r => rw [e] at this; simpa using this
theorem figs_eq : figs = [48, 49, 50, 51, 52, 53, 54, 55, 56, 57] := by decide +kernel
theorem digits_figs {l : List Nat} (h : NumText.AllDigits l) : (l.all fun c => decide (c ∈ figs)) = true := by
  refine List.all_eq_true.mpr fun c hc => decide_eq_true ?_
  have := h c hc
  rw [figs_eq]
  simp
  omega
theorem numF_numS (n : Nat) (h : n < 10 ^ 9) : numF (numS (n : Int)) = some (n : Int) := by
  have t : (numS (n : Int)).cps.toList = TL.numL n := numS_tl n
  have l : (numS (n : Int)).length = (TL.numL n).length := by rw [len_tl, t]
  have l1 : 1 ≤ (TL.numL n).length := List.length_pos_iff.mpr (TL.numL_ne n)
  have l2 : (TL.numL n).length ≤ 9 := TL.numL_len (by decide) h
  have fw : figW (numS (n : Int)) = true := by
    unfold figW
    rw [l, t, digits_figs (TL.numL_digits n)]
    simp [l1, l2]
  have nl : lead (numS (n : Int)) = false := by
    unfold lead
    rw [l, t]
    by_cases hn : n < 10
    · rw [TL.numL_lt hn]
      simp
    · have := numL_head n (by omega)
      simp [this]
  unfold numF
  rw [fw, nl, t, TL.numL_val]
  rfl
theorem digitsVal_snoc (l : List Nat) (c : Nat) : NumText.digitsVal (l ++ [c]) = NumText.digitsVal l * 10 + (c - 48) := by
  unfold NumText.digitsVal
  rw [List.foldl_append]
  rfl
theorem digits_back (l : List Nat) : NumText.AllDigits l → l ≠ [] → (l.length = 1 ∨ l.head? ≠ some 48) → TL.numL (NumText.digitsVal l) = l ∧ (l.head? ≠ some 48 → 0 < NumText.digitsVal l) := by
  induction h : l.length generalizing l with
  | zero => intro _ hn; exact absurd (List.length_eq_zero_iff.mp h) hn
  | succ n ih =>
    intro hd hn hh
    obtain ⟨r, c, rfl⟩ : ∃ r c, l = r ++ [c] := ⟨_, _, (List.dropLast_concat_getLast hn).symm⟩
    have hc : 48 ≤ c ∧ c ≤ 57 := hd c (by simp)
    have hr : NumText.AllDigits r := fun x hx => hd x (List.mem_append_left _ hx)
    rw [digitsVal_snoc]
    cases r with
    | nil =>
      have e0 : NumText.digitsVal [] = 0 := rfl
      rw [e0, Nat.zero_mul, Nat.zero_add, TL.numL_lt (by omega)]
      refine ⟨by simp; omega, fun h48 => ?_⟩
      simp at h48
      omega
    | cons d r =>
      have hl : (d :: r).length = n := by simp at h ⊢; omega
      have h48 : (d :: r).head? ≠ some 48 := by
        rcases hh with hh | hh
        · simp at hl; omega
        · simpa using hh
      obtain ⟨i1, i2⟩ := ih (d :: r) hl hr (by simp) (.inr h48)
      have pos := i2 h48
      refine ⟨?_, fun _ => by omega⟩
      generalize hv : NumText.digitsVal (d :: r) = v at *
      rw [TL.numL_step (by omega), show (v * 10 + (c - 48)) / 10 = v from by omega, i1, show 48 + (v * 10 + (c - 48)) % 10 = c from by omega]
theorem numF_back {w : Str} {i : Int} (h : numF w = some i) : numS i = w ∧ 0 ≤ i ∧ i < 10 ^ 9 := by
  unfold numF at h
  split at h
  · rename_i hc
    obtain ⟨h1, h2⟩ := Bool.and_eq_true_iff.mp hc
    cases h
    obtain ⟨f1, f3⟩ := Bool.and_eq_true_iff.mp h1
    obtain ⟨f1, f2⟩ := Bool.and_eq_true_iff.mp f1
    have l1 := of_decide_eq_true f1
    have l2 := of_decide_eq_true f2
    have hd := figs_digits f3
    have hne : w.cps.toList ≠ [] := fun z => by
      rw [len_tl, z] at l1
      exact absurd l1 (by decide)
    have hh : w.cps.toList.length = 1 ∨ w.cps.toList.head? ≠ some 48 := by
      by_cases z : w.cps.toList.head? = some 48
      · left
        rw [← len_tl]
        have : ¬ 1 < w.length := fun g => by simp [lead, g, z] at h2
        omega
      · exact .inr z
    have b := (digits_back _ hd hne hh).1
    have e : numS ((NumText.digitsVal w.cps.toList : Nat) : Int) = w := TL.ext_tl (by rw [numS_tl]; exact b)
    refine ⟨e, Int.natCast_nonneg _, ?_⟩
    have hl : (TL.numL (NumText.digitsVal w.cps.toList)).length ≤ 9 := by rw [b, ← len_tl]; exact l2
    have up : ∀ (l : List Nat), NumText.AllDigits l → NumText.digitsVal l < 10 ^ l.length := by
      intro l
      induction hn : l.length generalizing l with
      | zero => intro _; rw [List.length_eq_zero_iff.mp hn]; decide
      | succ n ih =>
        intro hd
        have hne : l ≠ [] := fun z => by rw [z] at hn; cases hn
        obtain ⟨r, c, rfl⟩ : ∃ r c, l = r ++ [c] := ⟨_, _, (List.dropLast_concat_getLast hne).symm⟩
        have hc : 48 ≤ c ∧ c ≤ 57 := hd c (by simp)
        have := ih r (by simpa using hn) fun x hx => hd x (List.mem_append_left _ hx)
        rw [digitsVal_snoc, Nat.pow_succ]
        omega
    have u := up _ hd
    have : (10 : Nat) ^ w.cps.toList.length ≤ 10 ^ 9 := Nat.pow_le_pow_right (by decide) (by rw [← len_tl]; exact l2)
    have u2 := Nat.lt_of_lt_of_le u this
    have u3 : ((NumText.digitsVal w.cps.toList : Nat) : Int) < ((10 ^ 9 : Nat) : Int) := Int.ofNat_lt.mpr u2
    exact u3
  · cases h
/-! ### lines -/
theorem sp_tl : TL.tl (" " : Str) = [32] := by decide +kernel
theorem nl_tl : TL.tl ("\n" : Str) = [10] := by decide +kernel
theorem word_free {w : Str} (h : isW w = true) : (32 : Nat) ∉ TL.tl w ∧ (10 : Nat) ∉ TL.tl w := by
  unfold isW at h
  rcases Bool.or_eq_true_iff.mp h with h | h
  · rw [of_decide_eq_true h]; decide +kernel
  · rw [of_decide_eq_true h]; decide +kernel
theorem num_free (i : Int) (h : 0 ≤ i) : (32 : Nat) ∉ TL.tl (numS i) ∧ (10 : Nat) ∉ TL.tl (numS i) := by
  obtain ⟨n, rfl⟩ := Int.eq_ofNat_of_zero_le h
  rw [numS_tl]
  exact ⟨TL.numL_free (by decide), TL.numL_free (by decide)⟩
theorem line_join (y : Str × Int) : lineN y = Txt.join " " [y.1, numS y.2] := by
  rw [TL.join_eq]
  rfl
theorem line_split {y : Str × Int} (hw : isW y.1 = true) (h0 : 0 ≤ y.2) : Txt.split (lineN y) " " = [y.1, numS y.2] := by
  rw [line_join]
  refine TL.split_join sp_tl (by decide +kernel) (by simp) fun p hp => ?_
  rcases List.mem_cons.mp hp with rfl | hp
  · exact (word_free hw).1
  · rw [List.mem_singleton.mp hp]
    exact (num_free _ h0).1
theorem step_line {y : Str × Int} (hw : isW y.1 = true) (h0 : 0 ≤ y.2) (h1 : y.2 < 10 ^ 9) : stepF (lineN y) = some y := by
  unfold stepF
  rw [line_split hw h0]
  obtain ⟨n, hn⟩ := Int.eq_ofNat_of_zero_le h0
  have lt : n < 10 ^ 9 := by rw [hn] at h1; exact Int.ofNat_lt.mp h1
  have e := numF_numS n lt
  simp only [hw, if_true]
  rw [hn, e, ← hn]
  rfl
theorem step_back {l : Str} {y : Str × Int} (h : stepF l = some y) : l = lineN y ∧ isW y.1 = true ∧ 0 ≤ y.2 ∧ y.2 < 10 ^ 9 := by
  unfold stepF at h
  split at h
  · rename_i w n e
    split at h
    · rename_i hw
      cases en : numF n with
      | none => rw [en] at h; cases h
      | some i =>
        rw [en] at h
        cases h
        obtain ⟨b1, b2, b3⟩ := numF_back en
        refine ⟨?_, hw, b2, b3⟩
        have j := StrLaws.join_split l " "
        rw [e] at j
        rw [line_join, TL.join_eq]
        show l = Str.join " " [w, numS i]
        rw [b1]
        exact j.symm
    · cases h
  · cases h
theorem line_free {y : Str × Int} (hw : isW y.1 = true) (h0 : 0 ≤ y.2) : (10 : Nat) ∉ TL.tl (lineN y) := by
  unfold lineN
  rw [TL.tl_append, TL.tl_append, sp_tl]
  intro h
  rcases List.mem_append.mp h with h | h
  · rcases List.mem_append.mp h with h | h
    · exact (word_free hw).2 h
    · exact absurd h (by decide)
  · exact (num_free _ h0).2 h
theorem text_join : ∀ ys : List (Str × Int), TL.tl (textS ys) = TL.tl (Str.join "\n" (ys.map lineN ++ [("" : Str)]))
  | [] => rfl
  | y :: ys => by
    have ih := text_join ys
    have e1 : ∀ (x : Str) (r : List Str), TL.tl (Txt.join "" (x :: r)) = TL.tl x ++ TL.tl (Txt.join "" r) := fun x r => by
      rw [TL.join_eq, TL.join_eq, TL.tl_join, TL.tl_join]
      cases r with
      | nil => simp [TL.joinL]
      | cons z r =>
        have z0 : TL.tl ("" : Str) = [] := by decide +kernel
        rw [z0]
        simp [TL.joinL]
    have e2 : ∃ z r, ys.map lineN ++ [("" : Str)] = z :: r := by cases ys <;> simp
    obtain ⟨z, r, e2⟩ := e2
    unfold textS at ih ⊢
    rw [List.map_cons, e1, ih, List.map_cons, List.cons_append, e2]
    have e3 : Str.join "\n" (lineN y :: z :: r) = lineN y ++ "\n" ++ Str.join "\n" (z :: r) := rfl
    rw [e3, TL.tl_append]
    rfl
theorem text_eq (ys : List (Str × Int)) : textS ys = Txt.join "\n" (ys.map lineN ++ [("" : Str)]) := by
  rw [TL.join_eq]
  exact TL.ext_tl (text_join ys)
def okNY (y : Str × Int) : Bool := isW y.1 && decide (0 ≤ y.2) && decide (y.2 < 10 ^ 9)
theorem okN_of {y : Str × Int} (h : okNY y = true) : isW y.1 = true ∧ 0 ≤ y.2 ∧ y.2 < 10 ^ 9 := by
  obtain ⟨h1, h3⟩ := Bool.and_eq_true_iff.mp h
  obtain ⟨h1, h2⟩ := Bool.and_eq_true_iff.mp h1
  exact ⟨h1, of_decide_eq_true h2, of_decide_eq_true h3⟩
theorem text_split {ys : List (Str × Int)} (ok : ys.all okNY = true) : Txt.split (textS ys) "\n" = ys.map lineN ++ [("" : Str)] := by
  rw [text_eq]
  refine TL.split_join nl_tl (by decide +kernel) (by simp) fun p hp => ?_
  rcases List.mem_append.mp hp with hp | hp
  · obtain ⟨y, hy, rfl⟩ := List.mem_map.mp hp
    have := okN_of (List.all_eq_true.mp ok y hy)
    exact line_free this.1 this.2.1
  · rw [List.mem_singleton.mp hp]
    decide +kernel
theorem scan_lines : ∀ (ys : List (Str × Int)) (k : Nat), ys.all okNY = true → scan (ys.map lineN) k = (none, ys)
  | [], _, _ => rfl
  | y :: ys, k, h => by
    have h' := Bool.and_eq_true_iff.mp h
    have o := okN_of h'.1
    have ih := scan_lines ys (k + 1) h'.2
    rw [List.map_cons]
    simp only [scan, step_line o.1 o.2.1 o.2.2, ih]
theorem scan_back : ∀ (ls : List Str) (k : Nat), (scan ls k).1 = none → ls = (scan ls k).2.map lineN ∧ (scan ls k).2.all okNY = true
  | [], _, _ => ⟨rfl, rfl⟩
  | l :: ls, k, h => by
    cases hf : stepF l with
    | none => simp [scan, hf] at h
    | some y =>
      simp only [scan, hf] at h ⊢
      have ih := scan_back ls (k + 1) h
      have b := step_back hf
      refine ⟨by rw [List.map_cons, ← b.1, ← ih.1], ?_⟩
      rw [List.all_cons, ih.2, Bool.and_true]
      unfold okNY
      rw [b.2.1, decide_eq_true b.2.2.1, decide_eq_true b.2.2.2]
      rfl
/-- a text whose lines are all steps, and nothing behind, is the text of these -/
theorem read_text {s : Str} (h : (scan (initL s) 0).1 = none) (hl : lastL s = "") : textS (scan (initL s) 0).2 = s := by
  have b := (scan_back _ _ h).1
  rw [text_eq, ← b]
  have e : initL s ++ [lastL s] = Txt.split s "\n" := List.dropLast_concat_getLast (split_ne _ _)
  rw [hl] at e
  rw [e, TL.join_eq]
  exact StrLaws.join_split s "\n"
theorem text_parts {ys : List (Str × Int)} (ok : ys.all okNY = true) : initL (textS ys) = ys.map lineN ∧ lastL (textS ys) = "" := by
  have e := text_split ok
  constructor
  · unfold initL
    rw [e, List.dropLast_concat]
  · unfold lastL
    simp [e]
end Ev
/-! P16: plans turned back. -/
namespace Ev
open PySem PySem.Spec PyProof.Rows L2
def okT (y : Str × Int) : Bool := isW y.1 && inIv (.int y.2) 0 39
theorem okT_iff {y : Str × Int} : okT y = true ↔ isW y.1 = true ∧ 0 ≤ y.2 ∧ y.2 ≤ 39 := by
  simp [okT, inIv]
theorem planB_st (ys : List (Str × Int)) : planB (.tup (ys.map stP)) = (decide (ys.length ≤ 2000) && ys.all okT) := by
  simp only [planB, List.length_map, List.all_map]
  rfl
theorem stB_st {x : PV} (h : stB x = true) : ∃ y, x = stP y ∧ okT y = true := by
  unfold stB at h
  split at h
  · rename_i w q
    obtain ⟨h1, h2⟩ := Bool.and_eq_true_iff.mp h
    cases q with
    | int i => exact ⟨(w, i), rfl, by unfold okT; rw [h1, h2]; rfl⟩
    | _ => simp [inIv] at h2
  · cases h
theorem plan_of {p : PV} (h : planB p = true) : ∃ ys : List (Str × Int), p = .tup (ys.map stP) ∧ ys.length ≤ 2000 ∧ ys.all okT = true := by
  cases p with
  | tup xs =>
    have h' : (decide (xs.length ≤ 2000) && xs.all stB) = true := h
    obtain ⟨h1, h2⟩ := Bool.and_eq_true_iff.mp h'
    have k : ∀ xs : List PV, xs.all stB = true → ∃ ys : List (Str × Int), xs = ys.map stP ∧ ys.all okT = true := by
      intro xs
      induction xs with
      | nil => exact fun _ => ⟨[], rfl, rfl⟩
      | cons x xs ih =>
        intro h
        obtain ⟨g1, g2⟩ := Bool.and_eq_true_iff.mp h
        obtain ⟨y, rfl, hy⟩ := stB_st g1
        obtain ⟨ys, rfl, hys⟩ := ih g2
        exact ⟨y :: ys, rfl, by rw [List.all_cons, hy, hys]; rfl⟩
    obtain ⟨ys, rfl, hys⟩ := k xs h2
    have hl := of_decide_eq_true h1
    rw [List.length_map] at hl
    exact ⟨ys, rfl, hl, hys⟩
  | _ => simp [planB] at h
theorem okT_N {y : Str × Int} (h : okT y = true) : okNY y = true := by
  obtain ⟨h1, h2, h3⟩ := okT_iff.mp h
  unfold okNY
  rw [h1, decide_eq_true h2, decide_eq_true (show y.2 < 10 ^ 9 by omega)]
  rfl
theorem okT_9 {y : Str × Int} (h : okT y = true) : okP9 y = true := by
  obtain ⟨h1, h2, h3⟩ := okT_iff.mp h
  unfold okP9
  rw [h1, decide_eq_true h2, decide_eq_true (show y.2 < 10 ^ 10 by omega)]
  rfl
theorem ok47_9 {y : Str × Int} (h : ok47 y = true) : okP9 y = true := by
  obtain ⟨h1, h3⟩ := Bool.and_eq_true_iff.mp h
  obtain ⟨h1, h2⟩ := Bool.and_eq_true_iff.mp h1
  have := of_decide_eq_true h3
  unfold okP9
  rw [h1, h2, decide_eq_true (show y.2 < 10 ^ 10 by omega)]
  rfl
theorem all_imp {α : Type} {p q : α → Bool} (i : ∀ x, p x = true → q x = true) {xs : List α} (h : xs.all p = true) : xs.all q = true :=
  List.all_eq_true.mpr fun x hx => i x (List.all_eq_true.mp h x hx)
def flipW (w : Str) : Str := if w = "write" then "drop" else "write"
def flipY (y : Str × Int) : Str × Int := (flipW y.1, y.2)
theorem flipW_ok (w : Str) : isW (flipW w) = true := by
  unfold flipW
  split
  · decide
  · decide
theorem flip_okT {y : Str × Int} (h : okT y = true) : okT (flipY y) = true := by
  obtain ⟨h1, h2, h3⟩ := okT_iff.mp h
  exact okT_iff.mpr ⟨flipW_ok _, h2, h3⟩
def backF (ys : List (Str × Int)) : List (Str × Int) := ys.reverse.map flipY
theorem back_ok {ys : List (Str × Int)} (hl : ys.length ≤ 2000) (h : ys.all okT = true) : planB (.tup ((backF ys).map stP)) = true ∧ (backF ys).all okT = true ∧ (backF ys).length ≤ 2000 := by
  have a : (backF ys).all okT = true := List.all_eq_true.mpr fun x hx => by
    obtain ⟨y, hy, rfl⟩ := List.mem_map.mp hx
    exact flip_okT (List.all_eq_true.mp h y (List.mem_reverse.mp hy))
  have l : (backF ys).length ≤ 2000 := by simpa [backF] using hl
  refine ⟨?_, a, l⟩
  rw [planB_st, a, decide_eq_true l]
  rfl
theorem backwards_eq {ys : List (Str × Int)} (hl : ys.length ≤ 2000) (h : PH) : m_backwards [.tup (ys.map stP)] h = .ok (.tup ((backF ys).map stP)) h := by
  have lc := mLc_pure (b := false) (own := [1, 2]) (mi := mIt (mRevT (mV 0))) (t := .tp [(.nm 1), (.nm 2)]) (me := mTup (mCons (mIf (tB_ (mBin fEq (mV 1) (mC (.str "write")))) (mC (.str "drop")) (mC (.str "write"))) (mCons (mV 2) mNil)))
    (ρ := [some (.tup (ys.map stP)), none, none]) (h := h) (s := ⟨ys.reverse.map stP, fun _ => true⟩) stP (fun y => stP (flipY y)) ys.reverse (by simp [mIt, mRevT, mV, asT, itSeq]) rfl rfl
    (fun y _ => ⟨[some (.tup (ys.map stP)), some (.str y.1), some (.int y.2)], rfl, by
      by_cases hw : y.1 = "write"
      · simp [mV, hw, stP, flipY, flipW, sizeLine_eq]
      · simp [mV, hw, stP, flipY, flipW, sizeLine_eq]⟩) (by rw [List.length_reverse, sizeLine_eq]; omega)
  have e : (ys.reverse.map fun y => stP (flipY y)) = (backF ys).map stP := by simp [backF, Function.comp_def]
  rw [e] at lc
  refine def_rt (h1 := h) (v := .tup ((backF ys).map stP)) rfl ?_ (outF_same rfl)
  have tp : fTuple [.lst ((backF ys).map stP)] h = some (.tup ((backF ys).map stP), h) := by simp [fTuple, asQ, asL]
  show b_backwards [some (.tup (ys.map stP)), none, none] h = _
  unfold b_backwards
  simp only [ev_mRet, ev_mCallB, ev_mCons, ev_mNil, lc, ev_bind_ok, ev_newL_f, tp, ev_opt_some, ev_st_ok]
theorem turned_eq {ys : List (Str × Int)} (hl : ys.length ≤ 2000) (ok : ys.all okT = true) (h : PH) : m_turned_back [.tup (ys.map stP)] h = .ok (.tup ((backF ys).map stP)) h := by
  have lc := mLc_pure (b := false) (own := [1]) (mi := mIt (mV 0)) (t := .nm 1) (me := mCall m_is_step (mCons (mV 1) (mCons (mBin (fAdd false) (mC (.int 39)) (mC (.int 1))) mNil))) (ρ := [some (.tup (ys.map stP)), none]) (h := h) (s := ⟨ys.map stP, fun _ => true⟩)
    stP (fun y => .bl (okT y)) ys rfl rfl rfl (fun y hy => ⟨_, rfl, by
      have e := step_eq (p := stP y) (h := h) rfl rfl
      simp [mV, wipeR, e]
      rfl⟩) (by rw [sizeLine_eq]; omega)
  have ea := fAll_bl okT ys h
  have bk := backwards_eq hl h
  have hl' : ¬ ((2000 : Int) < (ys.map stP).length) := by rw [List.length_map]; omega
  have ln : fLen [.tup (ys.map stP)] h = some (.int (ys.map stP).length, h) := by simp only [fLen, asQ, asL, asT]
  refine def_rt (h1 := h) (v := .tup ((backF ys).map stP)) rfl ?_ (outF_same rfl)
  show b_turned_back [some (.tup (ys.map stP)), none] h = _
  unfold b_turned_back
  refine (seq_nx (ρ1 := [some (.tup (ys.map stP)), none]) (h1 := h) ?_).trans ?_
  · have is : fIsi [.tup (ys.map stP), .ty "tuple"] h = some (.bl true, h) := by simp [fIsi, tyN]
    simp only [ev_mIfS, ev_tOr, ev_tNot, ev_tB, ev_mCallB, ev_mCons, ev_mNil, mV, List.getElem?_cons_zero, ev_mC, ev_bind_ok, is, ev_opt_some, ev_asB, Bool.not_true, Bool.false_eq_true, if_false, ev_mBin, ln, fI, hl', decide_false, ev_st_ok, ev_mPass]
  refine (seq_nx (ρ1 := [some (.tup (ys.map stP)), none]) (h1 := h) ?_).trans ?_
  · simp only [ev_mIfS, ev_tNot, ev_tB, ev_mCallB, ev_mCons, ev_mNil, lc, ev_bind_ok, ev_newL_f, ea, ok, ev_opt_some, ev_asB, Bool.not_true, Bool.false_eq_true, if_false, ev_st_ok, ev_mPass]
  simp only [ev_mRet, ev_mCall, ev_mCons, ev_mNil, mV, List.getElem?_cons_zero, ev_bind_ok, bk, ev_st_ok]
noncomputable abbrev backB : SM := mSeq (mUnl [(.nm 4), (.nm 5)] (mMt "str" (fSplit false) (mV 3) (mCons (mC (.str " ")) mNil)))
  (mExpr (mMt "list" fAppend (mV 2) (mCons (mBin (fAdd false) (mBin (fAdd false) (mBin (fAdd false) (mBin fIx (mLst false (mCons (mC (.str "write")) (mCons (mC (.str "drop")) mNil))) (mCallB fInt (mCons (mBin fEq (mV 4) (mC (.str "write"))) mNil))) (mC (.str " "))) (mV 5)) (mC (.str "\n"))) mNil)))
theorem back_loop (h : PH) (x0 x1 : PV) : ∀ (zs : List (Str × Int)) (acc : List Str) (a b c : Option PV), zs.all okNY = true → acc.length + zs.length ≤ 1000000 →
    ∃ a' b' c', forL (fun _ => true) (.nm 3) backB (zs.map fun y => .str (lineN y)) [some x0, some x1, some (.ref h.length), a, b, c] (h ++ [.lst (acc.map PV.str)]) =
      .nx [some x0, some x1, some (.ref h.length), a', b', c'] (h ++ [.lst ((acc ++ zs.map fun y => lineS (flipY y)).map PV.str)])
  | [], acc, a, b, c, _, _ => ⟨a, b, c, by simp [forL]⟩
  | y :: zs, acc, a, b, c, hz, hn => by
    obtain ⟨z1, z2⟩ := Bool.and_eq_true_iff.mp hz
    obtain ⟨o1, o2, o3⟩ := okN_of z1
    have hl : (lineN y).length ≤ 1000000 := by
      have h9 : okP9 y = true := by
        unfold okP9
        rw [o1, decide_eq_true o2, decide_eq_true (show y.2 < 10 ^ 10 by omega)]
        rfl
      have := line_len h9
      unfold lineS at this
      rw [len_add] at this
      omega
    have sp := split_sp hl (h ++ [.lst (acc.map PV.str)])
    rw [line_split o1 o2] at sp
    have wl := isW_len o1
    have nl := num_len o2 (show y.2 < 10 ^ 10 by omega)
    have fl := isW_len (flipW_ok y.1)
    obtain ⟨a', b', c', ih⟩ := back_loop h x0 x1 zs (acc ++ [lineS (flipY y)]) (some (.str (lineN y))) (some (.str y.1)) (some (.str (numS y.2))) z2 (by simp at hn ⊢; omega)
    refine ⟨a', b', c', ?_⟩
    have hz' : acc.length < 16777216 := by simp at hn; omega
    have s1 : (" " : Str).length = 1 := rfl
    have s2 : ("\n" : Str).length = 1 := rfl
    have A1 := fun h => addS_ok (flipW y.1) " " (by omega) h
    have A2 := fun h => addS_ok (flipW y.1 ++ " ") (numS y.2) (by rw [len_add]; omega) h
    have A3 := fun h => addS_ok (flipW y.1 ++ " " ++ numS y.2) "\n" (by rw [len_add, len_add]; omega) h
    have el : flipW y.1 ++ " " ++ numS y.2 ++ "\n" = lineS (flipY y) := rfl
    rw [el] at A3
    have fw : ∀ h, ((fInt [.bl (decide (y.1 = "write"))] h).bind fun q => fIx (.lst [.str "write", .str "drop"]) q.1 h) = some (.str (flipW y.1), h) := fun h => by
      by_cases hw : y.1 = "write"
      · simp [fInt, orC, fInt1, hw, flipW, ix1]
      · simp [fInt, orC, fInt1, hw, flipW, ix0]
    have fi : ∀ h, fInt [.bl (decide (y.1 = "write"))] h = some (.int (if y.1 = "write" then 1 else 0), h) := fun h => by
      by_cases hw : y.1 = "write"
      · simp [fInt, orC, fInt1, hw]
      · simp [fInt, orC, fInt1, hw]
    have fx : ∀ h, fIx (.lst [.str "write", .str "drop"]) (.int (if y.1 = "write" then 1 else 0)) h = some (.str (flipW y.1), h) := fun h => by
      by_cases hw : y.1 = "write"
      · simp [hw, flipW, ix1]
      · simp [hw, flipW, ix0]
    have am : acc.map PV.str ++ [PV.str (lineS (flipY y))] = (acc ++ [lineS (flipY y)]).map PV.str := by simp
    have as : (acc ++ [lineS (flipY y)]) ++ (zs.map fun y => lineS (flipY y)) = acc ++ ((y :: zs).map fun y => lineS (flipY y)) := by simp
    rw [as, ← am] at ih
    rw [← ih]
    have st : backB [some x0, some x1, some (.ref h.length), some (.str (lineN y)), b, c] (h ++ [.lst (acc.map PV.str)]) = .nx [some x0, some x1, some (.ref h.length), some (.str (lineN y)), some (.str y.1), some (.str (numS y.2))] (h ++ [.lst (acc.map PV.str ++ [PV.str (lineS (flipY y))])]) := by
      unfold backB
      refine (seq_nx (ρ1 := [some x0, some x1, some (.ref h.length), some (.str (lineN y)), some (.str y.1), some (.str (numS y.2))]) (h1 := h ++ [.lst (acc.map PV.str)]) ?_).trans ?_
      · simp [mUnl, mV, isT, isS, sp, asL, asgs]
      · simp [mV, isT, isS, asL, app_get, sizeLine_eq, fi, fx, A1, A2, A3, fAppend, hz', app_set]
    simp only [List.map_cons, forL, if_true, ev_asg_nm, List.set_cons_succ, List.set_cons_zero, st]
theorem text_len {ys : List (Str × Int)} (hl : ys.length ≤ 2001) (ok9 : ys.all okP9 = true) : (textS ys).length ≤ 40000 := by
  have e := join_wide "\n" nl_len (ys.map lineN ++ [("" : Str)]) (by simp)
  rw [← text_eq] at e
  have w1 : wide (ys.map lineN) ≤ 17 * ys.length := by
    clear e hl
    induction ys with
    | nil => exact Nat.le_refl _
    | cons y ys ih =>
      obtain ⟨z1, z2⟩ := Bool.and_eq_true_iff.mp ok9
      have := ih z2
      have l := line_len z1
      unfold lineS at l
      rw [len_add, nl_len] at l
      rw [List.map_cons, wide_cons, List.length_cons]
      omega
  have w2 : wide [("" : Str)] = 1 := rfl
  rw [wide_app, w2] at e
  omega
theorem lback_eq {ys : List (Str × Int)} (hl : ys.length ≤ 2000) (ok : ys.all okT = true) (h : PH) (hh : h.all nrO = true) : m__law_backwards [.str (textS ys)] h = .ok (.str (textS (backF ys))) h := by
  have okn : ys.all okNY = true := all_imp (fun _ => okT_N) ok
  have ok9 : ys.all okP9 = true := all_imp (fun _ => okT_9) ok
  have tl : (textS ys).length ≤ 1000000 := Nat.le_trans (text_len (by omega) ok9) (by decide)
  have sp := split_nl tl h
  rw [text_split okn] at sp
  have ci : cutG ((ys.map lineN ++ [("" : Str)]).map PV.str) none (some (-1)) = (ys.map lineN).map PV.str := by
    rw [cut_init, List.map_append, List.map_singleton, List.dropLast_concat]
  have rv : ((ys.map lineN).map PV.str).reverse = ys.reverse.map fun y => PV.str (lineN y) := by simp [Function.comp_def]
  have okr : ys.reverse.all okNY = true := by rw [List.all_reverse]; exact okn
  obtain ⟨a', b', c', lp⟩ := back_loop h (.str (textS ys)) (.lst ((ys.map lineN).map PV.str)) ys.reverse [] none none none okr (by rw [List.length_reverse]; simp; omega)
  have fe : (ys.reverse.map fun y => lineS (flipY y)) = (backF ys).map lineS := by simp [backF, Function.comp_def]
  rw [fe] at lp
  have bo := back_ok hl ok
  have jn : ∀ H : PH, H[h.length]? = some (.lst (((backF ys).map lineS).map PV.str)) → fJoin (.str "") [.ref h.length] H = some (.str (textS (backF ys)), H) := fun H e => by
    have sl := sum_le (fun y : Str => y.length) 17 ((backF ys).map lineS) (fun x hx => by
      obtain ⟨y, hy1, rfl⟩ := List.mem_map.mp hx
      exact line_len (okT_9 (List.all_eq_true.mp bo.2.1 y hy1)))
    rw [List.length_map] at sl
    have b2 := bo.2.2
    have e2 : (((backF ys).map lineS).map (·.length)).sum + ((backF ys).map lineS).length * ("" : Str).length ≤ 16777216 := by
      have z : ("" : Str).length = 0 := rfl
      rw [z, Nat.mul_zero, Nat.add_zero]
      omega
    simp only [fJoin, asQ, asL, e, Option.bind, asSs_map, e2, if_true]
    rfl
  refine def_rt (h1 := h ++ [.lst (((backF ys).map lineS).map PV.str)]) (v := .str (textS (backF ys))) rfl ?_ (outF_nr (frz := true) hh rfl)
  show b__law_backwards [some (.str (textS ys)), none, none, none, none, none] h = _
  unfold b__law_backwards
  refine (seq_nx (ρ1 := [some (.str (textS ys)), some (.lst ((ys.map lineN).map PV.str)), none, none, none, none]) (h1 := h) ?_).trans ?_
  · simp only [ev_mAsg, ev_mSl, ev_mMt, mV, List.getElem?_cons_zero, ev_bind_ok, isT, isS, decide_true, Bool.and_self, Bool.true_or, if_true, ev_mCons, ev_mNil, ev_mC, sp, ev_opt_some, ev_mNoPart, ev_mPart, ev_mUn, fNeg, sl_lst, ci, ev_st_ok, ev_asg_nm, List.set_cons_succ, List.set_cons_zero]
  refine (seq_nx (ρ1 := [some (.str (textS ys)), some (.lst ((ys.map lineN).map PV.str)), some (.ref h.length), none, none, none]) (h1 := h ++ [.lst []]) (by simp [sizeLine_eq])).trans ?_
  have it : mIt (mRevL false (mV 1)) [some (.str (textS ys)), some (.lst ((ys.map lineN).map PV.str)), some (.ref h.length), none, none, none] (h ++ [.lst []]) = .ok ⟨ys.reverse.map fun y => PV.str (lineN y), fun _ => true⟩ (h ++ [.lst []]) := by
    simp only [mIt, mRevL, mV, List.getElem?_cons_succ, List.getElem?_cons_zero, ev_bind_ok, asL, rv, ev_newL_f, itSeq]
  refine (seq_nx (for_eq it lp)).trans ?_
  simp only [List.nil_append]
  have j := jn (h ++ [.lst (((backF ys).map lineS).map PV.str)]) (app_get _ _)
  simp only [ev_mRet, ev_mMt, ev_mC, ev_bind_ok, isT, isS, decide_true, Bool.and_self, Bool.true_or, if_true, ev_mCons, ev_mNil, mV, List.getElem?_cons_succ, List.getElem?_cons_zero, j, ev_opt_some, ev_st_ok]
end Ev
/-! P17: the law. -/
namespace Ev
open PySem PySem.Spec PyProof.Rows L2
/-- a loop by an invariant that counts the turns left -/
theorem forL_invN {chk : PH → Bool} {t : Tg} {body : SM} (Inv : Nat → Ro → PH → Prop) (hc : ∀ n ρ h, Inv n ρ h → chk h = true) : ∀ (xs : List PV) (ρ : Ro) (h : PH), Inv xs.length ρ h →
    (∀ x ∈ xs, ∀ n ρ h, n < xs.length → Inv (n + 1) ρ h → ∃ ρ1 ρ2 h2, asg t x ρ = some ρ1 ∧ body ρ1 h = .nx ρ2 h2 ∧ Inv n ρ2 h2) → ∃ ρ' h', forL chk t body xs ρ h = .nx ρ' h' ∧ Inv 0 ρ' h'
  | [], ρ, h, hi, _ => ⟨ρ, h, by simp [forL, hc _ ρ h hi], hi⟩
  | x :: xs, ρ, h, hi, hx => by
    obtain ⟨ρ1, ρ2, h2, e1, e2, hi2⟩ := hx x List.mem_cons_self xs.length ρ h (by simp) hi
    obtain ⟨ρ', h', e, hi'⟩ := forL_invN Inv hc xs ρ2 h2 hi2 fun y hy n ρ h hn => hx y (List.mem_cons_of_mem _ hy) n ρ h (by rw [List.length_cons]; omega)
    exact ⟨ρ', h', by simp only [forL, hc _ ρ h hi, if_true, e1, e2]; exact e, hi'⟩
theorem tix0 (a : PV) (r : List PV) (h : PH) : fIx (.tup (a :: r)) (.int 0) h = some (a, h) := ix_tup (a :: r) 0 (by simp) h
theorem tix1 (a b : PV) (r : List PV) (h : PH) : fIx (.tup (a :: b :: r)) (.int 1) h = some (b, h) := ix_tup (a :: b :: r) 1 (by simp) h
theorem ne_plan (h : PH) : fNe (.tup [.str "plan"]) (.tup [.str "plan"]) h = some (.bl false, h) := by
  have e : SeqAt.shaped (.tuple [.str "plan"]) = true := by decide +kernel
  have v : PyData.eqv (.tuple [.str "plan"]) (.tuple [.str "plan"]) = true := by decide +kernel
  simp only [fNe, orF, fNeS, fNeD, datH, dat, dats, Option.map, e, v, Bool.and_self, if_true, Bool.not_true]
section
variable {P : Addr} {cs : List Int} {a b t : Int}
theorem tab_bag : tabOk P qLam (bagH P qLam cs a b t []) = true := by simp [tabOk, bagH, bagO, noTab]
theorem told_mk {w : Str} {zs : List CM} {i n j : Nat} {g : DF} {ρ : Ro} {p : PV} (e : ρ[j]? = some (some p)) : mTold P qLam w zs i n (mCall g (mCons (mV j) mNil)) ρ (bagH P qLam cs a b t []) = toldO w zs i n (g [p] (bagH P qLam cs a b t [])) := by
  unfold mTold
  rw [if_pos tab_bag]
  simp [mV, e]
theorem told_no {j : Nat} {ρ : Ro} {p : PV} (e : ρ[j]? = some (some p)) (hk : pk3 p = true) (hp : planB p = false) : mTold P qLam "read" zs__law_told 1 3 (mCall m_plan_text (mCons (mV j) mNil)) ρ (bagH P qLam cs a b t []) = .ok (.tup [.str "plan"]) (bagH P qLam cs a b t []) := by
  rw [told_mk e, ptext_bad hk _ hp, told_plan]
theorem told_yes {j : Nat} {ρ : Ro} {ys : List (Str × Int)} (e : ρ[j]? = some (some (.tup (ys.map stP)))) (hl : ys.length ≤ 2000) (ok : ys.all okT = true) : mTold P qLam "read" zs__law_told 1 3 (mCall m_plan_text (mCons (mV j) mNil)) ρ (bagH P qLam cs a b t []) = .ok (.tup [.str "read", .str (textS ys)]) (bagH P qLam cs a b t []) := by
  rw [told_mk e, ptext_eq (all_imp (fun _ => okT_9) ok) (by omega) _ (by rw [planB_st, ok, decide_eq_true hl]; rfl), told_ok_]
theorem bagnr : (bagH P qLam cs a b t []).all nrO = true := bag_nr P qLam cs a b t
/-- the plan read of its own text -/
theorem read_own {ys : List (Str × Int)} (hl : ys.length ≤ 2000) (ok : ys.all okT = true) : m_read_plan [.str (textS ys)] (bagH P qLam cs a b t []) = .ok (.tup (ys.map stP)) (bagH P qLam cs a b t []) := by
  have okn : ys.all okNY = true := all_imp (fun _ => okT_N) ok
  have ok9 : ys.all okP9 = true := all_imp (fun _ => okT_9) ok
  obtain ⟨p1, p2⟩ := text_parts okn
  have tl := Nat.le_trans (text_len (show ys.length ≤ 2001 by omega) ok9) (show 40000 ≤ 1000000 by decide)
  rw [read_eq tl (by rw [p1, List.length_map]; omega) _ bagnr]
  unfold readF
  rw [p1, p2, scan_lines ys 0 okn]
  have pb : planB (.tup (ys.map stP)) = true := by rw [planB_st, ok, decide_eq_true hl]; rfl
  simp [pb]
theorem sameOk_plan (ys : List (Str × Int)) (hl : ys.length ≤ 100000) (n : Nat) : sameOk (n + 3) (.tup (ys.map stP)) = true := by
  have e : sameOk (n + 3) (.tup (ys.map stP)) = ((ys.map stP).all (sameOk (n + 2)) && decide ((ys.map stP).length ≤ 1000000)) := rfl
  rw [e, List.length_map, decide_eq_true (show ys.length ≤ 1000000 by omega), Bool.and_true]
  refine List.all_eq_true.mpr fun x hx => ?_
  obtain ⟨y, _, rfl⟩ := List.mem_map.mp hx
  simp [stP, sameOk]
/-- the odd things -/
theorem odd_body {ys : List (Str × Int)} {r0 s2 s4 s5 s6 s8 s9 : Option PV} {k : PV} (hcs : cs.length ≤ 1000) (ha : 0 ≤ a) (hb : 0 ≤ b) (hy : ys.length ≤ 3000) :
    ∃ (s4' s9' : Option PV) (a' b' t' : Int), (mSeq (mAsg (.nm 9) (mCall m__law_odd (mCons (mV 1) (mCons (mV 7) mNil))))
  (mSeq (mAsg (.nm 4) (mTup (mCons (mC (.str "plan")) mNil)))
  (mSeq (mIfS (tB_ (mCall m__law_is_plan (mCons (mV 9) mNil))) (mAsg (.nm 4) (mTup (mCons (mC (.str "read")) (mCons (mCall m__law_text (mCons (mV 9) mNil)) mNil)))) mPass)
  (mIfS (tNot_ (tB_ (mCall (m__law_is_same 5) (mCons (mTold P qLam "read" zs__law_told 1 3 (mCall m_plan_text (mCons (mV 9) mNil))) (mCons (mV 4) mNil))))) (mRet (mC (.bl false))) mPass))))
      [r0, some (.ref 1), s2, some k, s4, s5, s6, some (.tup (ys.map stP)), s8, s9] (bagH P qLam cs a b t []) =
      .nx [r0, some (.ref 1), s2, some k, s4', s5, s6, some (.tup (ys.map stP)), s8, s9'] (bagH P qLam cs a' b' t' []) ∧ 0 ≤ a' ∧ 0 ≤ b' := by
  obtain ⟨p, a1, b1, t1, e1, x1, x2, hk⟩ := odd_eq (P := P) (q := qLam) (cs := cs) (a := a) (b := b) (t := t) (ys := ys) hcs ha hb hy
  have ip := isplan_eq (h := bagH P qLam cs a1 b1 t1 []) hk
  cases hp : planB p with
  | false =>
    rw [hp] at ip
    refine ⟨some (.tup [.str "plan"]), some p, a1, b1, t1, ?_, x1, x2⟩
    refine (seq_nx (ρ1 := [r0, some (.ref 1), s2, some k, s4, s5, s6, some (.tup (ys.map stP)), s8, some p]) (h1 := bagH P qLam cs a1 b1 t1 []) (by simp [mV, e1])).trans ?_
    refine (seq_nx (ρ1 := [r0, some (.ref 1), s2, some k, some (.tup [.str "plan"]), s5, s6, some (.tup (ys.map stP)), s8, some p]) (h1 := bagH P qLam cs a1 b1 t1 []) (by simp [mV, sizeLine_eq])).trans ?_
    refine (seq_nx (ρ1 := [r0, some (.ref 1), s2, some k, some (.tup [.str "plan"]), s5, s6, some (.tup (ys.map stP)), s8, some p]) (h1 := bagH P qLam cs a1 b1 t1 []) (by simp [mV, ip])).trans ?_
    have tn := told_no (P := P) (cs := cs) (a := a1) (b := b1) (t := t1) (j := 9) (ρ := [r0, some (.ref 1), s2, some k, some (.tup [.str "plan"]), s5, s6, some (.tup (ys.map stP)), s8, some p]) rfl hk hp
    have sm := same_refl 5 (.tup [.str "plan"]) (bagH P qLam cs a1 b1 t1 []) (by simp [sameOk])
    simp only [ev_mIfS, ev_tNot, ev_tB, ev_mCall, ev_mCons, ev_mNil, tn, ev_bind_ok, mV, List.getElem?_cons_succ, List.getElem?_cons_zero, sm, ev_asB, Bool.not_true, ev_st_ok, Bool.false_eq_true, if_false, ev_mPass]
  | true =>
    rw [hp] at ip
    obtain ⟨zs, rfl, zl, zok⟩ := plan_of hp
    have lt := ltext_eq (ys := zs) (all_imp (fun _ => okT_9) zok) (by omega) (bagH P qLam cs a1 b1 t1 [])
    refine ⟨some (.tup [.str "read", .str (textS zs)]), some (.tup (zs.map stP)), a1, b1, t1, ?_, x1, x2⟩
    refine (seq_nx (ρ1 := [r0, some (.ref 1), s2, some k, s4, s5, s6, some (.tup (ys.map stP)), s8, some (.tup (zs.map stP))]) (h1 := bagH P qLam cs a1 b1 t1 []) (by simp [mV, e1])).trans ?_
    refine (seq_nx (ρ1 := [r0, some (.ref 1), s2, some k, some (.tup [.str "plan"]), s5, s6, some (.tup (ys.map stP)), s8, some (.tup (zs.map stP))]) (h1 := bagH P qLam cs a1 b1 t1 []) (by simp [mV, sizeLine_eq])).trans ?_
    refine (seq_nx (ρ1 := [r0, some (.ref 1), s2, some k, some (.tup [.str "read", .str (textS zs)]), s5, s6, some (.tup (ys.map stP)), s8, some (.tup (zs.map stP))]) (h1 := bagH P qLam cs a1 b1 t1 []) (by simp [mV, ip, lt, sizeLine_eq])).trans ?_
    have tn := told_yes (P := P) (cs := cs) (a := a1) (b := b1) (t := t1) (j := 9) (ρ := [r0, some (.ref 1), s2, some k, some (.tup [.str "read", .str (textS zs)]), s5, s6, some (.tup (ys.map stP)), s8, some (.tup (zs.map stP))]) rfl zl zok
    have sm := same_refl 5 (.tup [.str "read", .str (textS zs)]) (bagH P qLam cs a1 b1 t1 []) (by simp [sameOk])
    simp only [ev_mIfS, ev_tNot, ev_tB, ev_mCall, ev_mCons, ev_mNil, tn, ev_bind_ok, mV, List.getElem?_cons_succ, List.getElem?_cons_zero, sm, ev_asB, Bool.not_true, ev_st_ok, Bool.false_eq_true, if_false, ev_mPass]
end
end Ev
/-! P18: the texts read; the law. -/
namespace Ev
open PySem PySem.Spec PyProof.Rows L2
section
variable {P : Addr} {cs : List Int} {a b t : Int}
noncomputable abbrev spB : SM := mAsg (.nm 8) (mCall m__law_spoilt (mCons (mV 1) (mCons (mV 8) mNil)))
def bnd : Nat → Nat
  | 0 => 900000
  | 1 => 225000
  | _ => 56250
theorem spoil_loop {r0 r2 r3 r4 r6 r7 r9 : Option PV} (hcs : cs.length ≤ 1000) (n : Nat) (hn : n ≤ 2) (s : Str) (hs : s.length ≤ 40000) (r5 : Option PV) (ha : 0 ≤ a) (hb : 0 ≤ b) :
    ∃ (s' : Str) (r5' : Option PV) (a' b' t' : Int), forL (fun _ => true) (.nm 5) spB ((List.range n).map fun k => .int (k : Nat)) [r0, some (.ref 1), r2, r3, r4, r5, r6, r7, some (.str s), r9] (bagH P qLam cs a b t []) =
      .nx [r0, some (.ref 1), r2, r3, r4, r5', r6, r7, some (.str s'), r9] (bagH P qLam cs a' b' t' []) ∧ s'.length ≤ 900000 ∧ 0 ≤ a' ∧ 0 ≤ b' := by
  have lp := forL_invN (chk := fun _ => true) (t := .nm 5) (body := spB) (fun n ρ h => ∃ (s' : Str) (r5' : Option PV) (a' b' t' : Int), ρ = [r0, some (.ref 1), r2, r3, r4, r5', r6, r7, some (.str s'), r9] ∧ h = bagH P qLam cs a' b' t' [] ∧ s'.length ≤ bnd n ∧ 0 ≤ a' ∧ 0 ≤ b')
    (fun _ _ _ _ => rfl) ((List.range n).map fun k => .int (k : Nat)) [r0, some (.ref 1), r2, r3, r4, r5, r6, r7, some (.str s), r9] (bagH P qLam cs a b t [])
    ⟨s, r5, a, b, t, rfl, rfl, by
      rw [List.length_map, List.length_range]
      match n, hn with
      | 0, _ => exact Nat.le_trans hs (by decide)
      | 1, _ => exact Nat.le_trans hs (by decide)
      | 2, _ => exact Nat.le_trans hs (by decide), ha, hb⟩
    (fun x _ m ρ h hm ⟨s', r5', a', b', t', e1, e2, l, x1, x2⟩ => by
      subst e1
      subst e2
      rw [List.length_map, List.length_range] at hm
      have hl : s'.length ≤ 400000 ∧ 2 * s'.length + 100 ≤ bnd m := by
        match m, (show m < 2 by omega) with
        | 0, _ =>
          have : s'.length ≤ 225000 := l
          exact ⟨by omega, show _ ≤ 900000 by omega⟩
        | 1, _ =>
          have : s'.length ≤ 56250 := l
          exact ⟨by omega, show _ ≤ 225000 by omega⟩
      obtain ⟨s2, a2, b2, t2, e, y1, y2, y3⟩ := spoilt_eq (P := P) (q := qLam) (cs := cs) (a := a') (b := b') (t := t') hcs x1 x2 hl.1
      refine ⟨_, [r0, some (.ref 1), r2, r3, r4, some x, r6, r7, some (.str s2), r9], bagH P qLam cs a2 b2 t2 [], rfl, ?_, s2, some x, a2, b2, t2, rfl, rfl, Nat.le_trans y3 hl.2, y1, y2⟩
      simp [mV, e])
  obtain ⟨ρ', h', e, s', r5', a', b', t', e1, e2, l, x1, x2⟩ := lp
  exact ⟨s', r5', a', b', t', by rw [e, e1, e2], l, x1, x2⟩
/-- what is told of a text read, and what is due -/
theorem read_due {s : Str} (hl : s.length ≤ 900000) : ∃ v : PV, toldO "read" zs__law_told 1 3 (m_read_plan [.str s] (bagH P qLam cs a b t [])) = .ok v (bagH P qLam cs a b t []) ∧ m__law_due [.str s] (bagH P qLam cs a b t []) = .ok v (bagH P qLam cs a b t []) ∧ sameOk 5 v = true ∧
    ((∃ w r, v = .tup (.str w :: r) ∧ w ≠ "read") ∨ ∃ ys : List (Str × Int), v = .tup [.str "read", .tup (ys.map stP)] ∧ ys.length ≤ 2000 ∧ ys.all okT = true ∧ textS ys = s) := by
  have hi : (initL s).length ≤ 1000000 := by
    have w := split_wide s "\n" nl_len
    have l := wide_len (Txt.split s "\n")
    unfold initL
    rw [List.length_dropLast]
    omega
  have hl' : s.length ≤ 1000000 := by omega
  rw [read_eq hl' hi _ bagnr]
  have d := due_eq hl' hi (bagH P qLam cs a b t []) bagnr
  unfold readF
  unfold dueF at d
  cases hs : (scan (initL s) 0).1 with
  | some n =>
    rw [hs] at d
    exact ⟨_, told_text _ _, d, by simp [sameOk], .inl ⟨"text", _, rfl, by decide⟩⟩
  | none =>
    rw [hs] at d
    simp only at d ⊢
    by_cases h1 : lastL s = ""
    · simp only [ne_eq, h1, not_true_eq_false, if_false] at d ⊢
      cases hp : planB (.tup ((scan (initL s) 0).2.map stP)) with
      | true =>
        rw [hp, if_pos rfl] at d
        rw [if_pos rfl]
        rw [planB_st] at hp
        obtain ⟨p1, p2⟩ := Bool.and_eq_true_iff.mp hp
        have pl := of_decide_eq_true p1
        refine ⟨_, told_ok_ _ _, d, ?_, .inr ⟨_, rfl, pl, p2, read_text hs h1⟩⟩
        have sp := sameOk_plan (scan (initL s) 0).2 (by omega) 1
        have e : sameOk 5 (.tup [.str "read", .tup ((scan (initL s) 0).2.map stP)]) = (true && (sameOk (1 + 3) (.tup ((scan (initL s) 0).2.map stP)) && true) && true) := rfl
        rw [e, sp]
        rfl
      | false =>
        rw [hp] at d
        exact ⟨_, told_plan _, d, by simp [sameOk], .inl ⟨"plan", _, rfl, by decide⟩⟩
    · simp only [ne_eq, h1, not_false_eq_true, if_true] at d ⊢
      exact ⟨_, told_text _ _, d, by simp [sameOk], .inl ⟨"text", _, rfl, by decide⟩⟩
noncomputable abbrev rdB (P0 : Addr) : SM := mSeq (mAsg (.nm 8) (mCall m__law_text (mCons (mSl (fSl false) (mV 7) mNoPart (mPart (mC (.int 60)))) mNil)))
  (mSeq (mIfS (tB_ (mBin fEq (mV 3) (mC (.int 0)))) (mAsg (.nm 8) (mCall m__law_text (mCons (mV 7) mNil))) mPass)
  (mSeq (mFor (mItA itRange1 (mCons (mCall m__law_draw (mCons (mV 1) (mCons (mC (.int 3)) mNil))) mNil)) (.nm 5) (mAsg (.nm 8) (mCall m__law_spoilt (mCons (mV 1) (mCons (mV 8) mNil)))))
  (mSeq (mAsg (.nm 4) (mCall m__law_due (mCons (mV 8) mNil)))
  (mSeq (mAsg (.nm 6) (mTold P0 qLam "read" zs__law_told 1 3 (mCall m_read_plan (mCons (mV 8) mNil))))
  (mIfS (tOr_ (tNot_ (tB_ (mCall (m__law_is_same 5) (mCons (mV 6) (mCons (mV 4) mNil))))) (tAnd_ (tB_ (mBin fEq (mBin fIx (mV 4) (mC (.int 0))) (mC (.str "read")))) (tB_ (mBin fNe (mCall m_plan_text (mCons (mBin fIx (mV 6) (mC (.int 1))) mNil)) (mV 8))))) (mRet (mC (.bl false))) mPass)))))
theorem read_body {ys : List (Str × Int)} {r0 s2 s4 s5 s6 s8 s9 : Option PV} {k : Int} (hcs : cs.length ≤ 1000) (ha : 0 ≤ a) (hb : 0 ≤ b) (hy : ys.length ≤ 2001) (ok : ys.all ok47 = true) :
    ∃ (s4' s5' s6' s8' : Option PV) (a' b' t' : Int), rdB P [r0, some (.ref 1), s2, some (.int k), s4, s5, s6, some (.tup (ys.map stP)), s8, s9] (bagH P qLam cs a b t []) =
      .nx [r0, some (.ref 1), s2, some (.int k), s4', s5', s6', some (.tup (ys.map stP)), s8', s9] (bagH P qLam cs a' b' t' []) ∧ 0 ≤ a' ∧ 0 ≤ b' := by
  have ok9 : ys.all okP9 = true := all_imp (fun _ => ok47_9) ok
  have okc := cutG_all okP9 ys none (some 60) ok9
  have clen := cutG_le ys none (some 60)
  have T1 := ltext_eq (ys := cutG ys none (some 60)) okc (by omega) (bagH P qLam cs a b t [])
  have T2 := ltext_eq (ys := ys) ok9 (by omega) (bagH P qLam cs a b t [])
  have l1 := text_len (show (cutG ys none (some 60)).length ≤ 2001 by omega) okc
  have l2 := text_len hy ok9
  have sl : ∀ h, fSl false (.tup (ys.map stP)) none (some 60) h = some (.tup ((cutG ys none (some 60)).map stP), h) := fun h => by
    simp only [fSl, asL, cutG_map]
  obtain ⟨v, a1, b1, t1, e1, x1, x2, x3, x4⟩ := draw_eq (P := P) (q := qLam) (cs := cs) (a := a) (b := b) (t := t) (many := 3) (e := []) ha hb (by decide) (by decide) hcs
  have fin : ∀ s : Str, s.length ≤ 40000 → ∀ (A B : SM), A [r0, some (.ref 1), s2, some (.int k), s4, s5, s6, some (.tup (ys.map stP)), s8, s9] (bagH P qLam cs a b t []) = .nx [r0, some (.ref 1), s2, some (.int k), s4, s5, s6, some (.tup (ys.map stP)), some (.str (textS (cutG ys none (some 60)))), s9] (bagH P qLam cs a b t []) →
      B [r0, some (.ref 1), s2, some (.int k), s4, s5, s6, some (.tup (ys.map stP)), some (.str (textS (cutG ys none (some 60)))), s9] (bagH P qLam cs a b t []) = .nx [r0, some (.ref 1), s2, some (.int k), s4, s5, s6, some (.tup (ys.map stP)), some (.str s), s9] (bagH P qLam cs a b t []) →
      ∃ (s4' s5' s6' s8' : Option PV) (a' b' t' : Int), (mSeq A (mSeq B
  (mSeq (mFor (mItA itRange1 (mCons (mCall m__law_draw (mCons (mV 1) (mCons (mC (.int 3)) mNil))) mNil)) (.nm 5) (mAsg (.nm 8) (mCall m__law_spoilt (mCons (mV 1) (mCons (mV 8) mNil)))))
  (mSeq (mAsg (.nm 4) (mCall m__law_due (mCons (mV 8) mNil)))
  (mSeq (mAsg (.nm 6) (mTold P qLam "read" zs__law_told 1 3 (mCall m_read_plan (mCons (mV 8) mNil))))
  (mIfS (tOr_ (tNot_ (tB_ (mCall (m__law_is_same 5) (mCons (mV 6) (mCons (mV 4) mNil))))) (tAnd_ (tB_ (mBin fEq (mBin fIx (mV 4) (mC (.int 0))) (mC (.str "read")))) (tB_ (mBin fNe (mCall m_plan_text (mCons (mBin fIx (mV 6) (mC (.int 1))) mNil)) (mV 8))))) (mRet (mC (.bl false))) mPass))))))
        [r0, some (.ref 1), s2, some (.int k), s4, s5, s6, some (.tup (ys.map stP)), s8, s9] (bagH P qLam cs a b t []) =
      .nx [r0, some (.ref 1), s2, some (.int k), s4', s5', s6', some (.tup (ys.map stP)), s8', s9] (bagH P qLam cs a' b' t' []) ∧ 0 ≤ a' ∧ 0 ≤ b' := by
    intro s hs A B eA eB
    obtain ⟨s', r5', a2, b2, t2, lp, l3, y1, y2⟩ := spoil_loop (P := P) (cs := cs) (a := a1) (b := b1) (t := t1) (r0 := r0) (r2 := s2) (r3 := some (.int k)) (r4 := s4) (r6 := s6) (r7 := some (.tup (ys.map stP))) (r9 := s9) hcs v.toNat (by omega) s hs s5 x3 x4
    have rg := range1_int v x1 (by omega) (bagH P qLam cs a1 b1 t1 [])
    have eit : mCons (mCall m__law_draw (mCons (mV 1) (mCons (mC (.int 3)) mNil))) mNil [r0, some (.ref 1), s2, some (.int k), s4, s5, s6, some (.tup (ys.map stP)), some (.str s), s9] (bagH P qLam cs a b t []) = .ok [.int v] (bagH P qLam cs a1 b1 t1 []) := by
      simp [mV, e1]
    have it := mItA_eq (f := itRange1) eit
    rw [rg] at it
    obtain ⟨u, d1, d2, d3, d4⟩ := read_due (P := P) (cs := cs) (a := a2) (b := b2) (t := t2) (s := s') l3
    refine ⟨some u, r5', some u, some (.str s'), a2, b2, t2, ?_, y1, y2⟩
    refine (seq_nx eA).trans ((seq_nx eB).trans ((seq_nx (for_eq it lp)).trans ?_))
    refine (seq_nx (ρ1 := [r0, some (.ref 1), s2, some (.int k), some u, r5', s6, some (.tup (ys.map stP)), some (.str s'), s9]) (h1 := bagH P qLam cs a2 b2 t2 []) (by simp [mV, d2])).trans ?_
    have tm := told_mk (P := P) (cs := cs) (a := a2) (b := b2) (t := t2) (w := "read") (zs := zs__law_told) (i := 1) (n := 3) (j := 8) (g := m_read_plan) (ρ := [r0, some (.ref 1), s2, some (.int k), some u, r5', s6, some (.tup (ys.map stP)), some (.str s'), s9]) rfl
    rw [d1] at tm
    refine (seq_nx (ρ1 := [r0, some (.ref 1), s2, some (.int k), some u, r5', some u, some (.tup (ys.map stP)), some (.str s'), s9]) (h1 := bagH P qLam cs a2 b2 t2 []) (by simp only [ev_mAsg, tm, ev_st_ok, ev_asg_nm, List.set_cons_succ, List.set_cons_zero])).trans ?_
    have sm := same_refl 5 u (bagH P qLam cs a2 b2 t2 []) d3
    rcases d4 with ⟨w, r, rfl, hw⟩ | ⟨zs, rfl, zl, zok, zt⟩
    · have i0 := tix0 (.str w) r (bagH P qLam cs a2 b2 t2 [])
      have ew : fEq (.str w) (.str "read") (bagH P qLam cs a2 b2 t2 []) = some (.bl false, bagH P qLam cs a2 b2 t2 []) := by rw [fEq_str, decide_eq_false hw]
      simp only [ev_mIfS, ev_tOr, ev_tNot, ev_tB, ev_mCall, ev_mCons, ev_mNil, mV, List.getElem?_cons_succ, List.getElem?_cons_zero, ev_bind_ok, sm, ev_asB, Bool.not_true, Bool.false_eq_true, if_false, ev_tAnd, ev_mBin, ev_mC, i0, ev_opt_some, ew, ev_st_ok, ev_mPass]
    · have i0 := tix0 (.str "read") [.tup (zs.map stP)] (bagH P qLam cs a2 b2 t2 [])
      have i1 := tix1 (.str "read") (.tup (zs.map stP)) [] (bagH P qLam cs a2 b2 t2 [])
      have ew : fEq (.str "read") (.str "read") (bagH P qLam cs a2 b2 t2 []) = some (.bl true, bagH P qLam cs a2 b2 t2 []) := by rw [fEq_str]; rfl
      have pt := ptext_eq (all_imp (fun _ => okT_9) zok) (by omega) (bagH P qLam cs a2 b2 t2 []) (ys := zs) (by rw [planB_st, zok, decide_eq_true zl]; rfl)
      have en : fNe (.str (textS zs)) (.str s') (bagH P qLam cs a2 b2 t2 []) = some (.bl false, bagH P qLam cs a2 b2 t2 []) := by rw [fNe_str, zt]; simp
      simp only [ev_mIfS, ev_tOr, ev_tNot, ev_tB, ev_mCall, ev_mCons, ev_mNil, mV, List.getElem?_cons_succ, List.getElem?_cons_zero, ev_bind_ok, sm, ev_asB, Bool.not_true, Bool.false_eq_true, if_false, if_true, ev_tAnd, ev_mBin, ev_mC, i0, i1, ev_opt_some, ew, pt, en, ev_st_ok, ev_mPass]
  by_cases hk : k = 0
  · refine fin (textS ys) l2 _ _ ?_ ?_
    · simp [mV, sl, T1]
    · simp [mV, hk, T2]
  · refine fin (textS (cutG ys none (some 60))) l1 _ _ ?_ ?_
    · simp [mV, sl, T1]
    · simp [mV, hk]
end
end Ev
/-! P19: the law is true. -/
namespace Ev
open PySem PySem.Spec PyProof.Rows L2
theorem law_true (P : Addr) (ns : List Int) (hl : ns.length ≤ 63) : ∃ h', m_law P [.rol (ns.map PV.int)] [.tab P qLam] = .ok (.bl true) h' := by
  have hcs : ns.length ≤ 1000 := by omega
  have e1 := bag_eq P qLam ns hl
  obtain ⟨ys, a, b, t, e2, x1, x2, yok, yl⟩ := drawn_eq (P := P) (q := qLam) (cs := ns) (a := 0) (b := 0) (t := 0) hcs (Int.le_refl 0) (Int.le_refl 0)
  have hk := stP_pk3 ys
  have ip := isplan_eq (h := bagH P qLam ns a b t []) hk
  have ok9 : ys.all okP9 = true := all_imp (fun _ => ok47_9) yok
  -- the first part
  have first : ∃ s2 : Option PV, ∀ rest, mSeq (mIfS (tNot_ (tB_ (mCall m__law_is_plan (mCons (mV 7) mNil)))) (mIfS (tB_ (mBin fNe (mTold P qLam "read" zs__law_told 1 3 (mCall m_plan_text (mCons (mV 7) mNil))) (mTup (mCons (mC (.str "plan")) mNil)))) (mRet (mC (.bl false))) mPass) (mSeq (mAsg (.nm 2) (mCall m__law_text (mCons (mV 7) mNil)))
  (mSeq (mIfS (tOr_ (tB_ (mBin fNe (mCall m_plan_text (mCons (mV 7) mNil)) (mV 2))) (tNot_ (tB_ (mCall (m__law_is_same 5) (mCons (mCall m_read_plan (mCons (mV 2) mNil)) (mCons (mV 7) mNil)))))) (mRet (mC (.bl false))) mPass)
  (mIfS (tB_ (mBin fNe (mCall m_plan_text (mCons (mCall m_turned_back (mCons (mV 7) mNil)) mNil)) (mCall m__law_backwards (mCons (mV 2) mNil)))) (mRet (mC (.bl false))) mPass)))) rest
      [some (.rol (ns.map PV.int)), some (.ref 1), none, none, none, none, none, some (.tup (ys.map stP)), none, none] (bagH P qLam ns a b t []) =
      rest [some (.rol (ns.map PV.int)), some (.ref 1), s2, none, none, none, none, some (.tup (ys.map stP)), none, none] (bagH P qLam ns a b t []) := by
    cases hp : planB (.tup (ys.map stP)) with
    | false =>
      rw [hp] at ip
      refine ⟨none, fun rest => seq_nx ?_⟩
      have tn := told_no (P := P) (cs := ns) (a := a) (b := b) (t := t) (j := 7) (ρ := [some (.rol (ns.map PV.int)), some (.ref 1), none, none, none, none, none, some (.tup (ys.map stP)), none, none]) rfl hk hp
      have s1 : (1 : Nat) ≤ sizeLine := by rw [sizeLine_eq]; decide
      simp only [ev_mIfS, ev_tNot, ev_tB, ev_mCall, ev_mCons, ev_mNil, mV, List.getElem?_cons_succ, List.getElem?_cons_zero, ev_bind_ok, ip, ev_asB, Bool.not_false, if_true, ev_st_ok, ev_mBin, tn, ev_mTup, ev_mC, List.length_cons, List.length_nil, Nat.zero_add, s1, ne_plan, ev_opt_some, Bool.false_eq_true, if_false, ev_mPass]
    | true =>
      rw [hp] at ip
      rw [planB_st] at hp
      obtain ⟨p1, p2⟩ := Bool.and_eq_true_iff.mp hp
      have pl := of_decide_eq_true p1
      have lt := ltext_eq ok9 (by omega) (bagH P qLam ns a b t [])
      have pt := ptext_eq ok9 (by omega) (bagH P qLam ns a b t []) (by rw [planB_st, p2, decide_eq_true pl]; rfl)
      have ro := read_own (P := P) (cs := ns) (a := a) (b := b) (t := t) pl p2
      have sm := same_refl 5 (.tup (ys.map stP)) (bagH P qLam ns a b t []) (sameOk_plan ys (by omega) 2)
      have tb := turned_eq pl p2 (bagH P qLam ns a b t [])
      obtain ⟨bo1, bo2, bo3⟩ := back_ok pl p2
      have pb := ptext_eq (all_imp (fun _ => okT_9) bo2) (by omega) (bagH P qLam ns a b t []) bo1
      have lb := lback_eq pl p2 (bagH P qLam ns a b t []) bagnr
      refine ⟨some (.str (textS ys)), fun rest => seq_nx ?_⟩
      have n1 : ∀ s : Str, fNe (.str s) (.str s) (bagH P qLam ns a b t []) = some (.bl false, bagH P qLam ns a b t []) := fun s => by rw [fNe_str]; simp
      simp only [ev_mIfS, ev_tNot, ev_tB, ev_mCall, ev_mCons, ev_mNil, mV, List.getElem?_cons_succ, List.getElem?_cons_zero, ev_bind_ok, ip, ev_asB, Bool.not_true, Bool.false_eq_true, if_false, ev_st_ok]
      refine (seq_nx (ρ1 := [some (.rol (ns.map PV.int)), some (.ref 1), some (.str (textS ys)), none, none, none, none, some (.tup (ys.map stP)), none, none]) (h1 := bagH P qLam ns a b t []) (by simp [mV, lt])).trans ?_
      refine (seq_nx (ρ1 := [some (.rol (ns.map PV.int)), some (.ref 1), some (.str (textS ys)), none, none, none, none, some (.tup (ys.map stP)), none, none]) (h1 := bagH P qLam ns a b t []) ?_).trans ?_
      · simp only [ev_mIfS, ev_tOr, ev_tNot, ev_tB, ev_mCall, ev_mCons, ev_mNil, mV, List.getElem?_cons_succ, List.getElem?_cons_zero, ev_bind_ok, ev_mBin, pt, n1, ro, sm, ev_opt_some, ev_asB, Bool.not_true, Bool.false_eq_true, if_false, ev_st_ok, ev_mPass]
      · simp only [ev_mIfS, ev_tOr, ev_tNot, ev_tB, ev_mCall, ev_mCons, ev_mNil, mV, List.getElem?_cons_succ, List.getElem?_cons_zero, ev_bind_ok, ev_mBin, tb, pb, lb, n1, ev_opt_some, ev_asB, Bool.not_true, Bool.false_eq_true, if_false, ev_st_ok, ev_mPass]
  obtain ⟨s2, first⟩ := first
  -- the loops
  have L1 := forL_inv (chk := fun _ => true) (t := .nm 3) (body := mSeq (mAsg (.nm 9) (mCall m__law_odd (mCons (mV 1) (mCons (mV 7) mNil))))
  (mSeq (mAsg (.nm 4) (mTup (mCons (mC (.str "plan")) mNil)))
  (mSeq (mIfS (tB_ (mCall m__law_is_plan (mCons (mV 9) mNil))) (mAsg (.nm 4) (mTup (mCons (mC (.str "read")) (mCons (mCall m__law_text (mCons (mV 9) mNil)) mNil)))) mPass)
  (mIfS (tNot_ (tB_ (mCall (m__law_is_same 5) (mCons (mTold P qLam "read" zs__law_told 1 3 (mCall m_plan_text (mCons (mV 9) mNil))) (mCons (mV 4) mNil))))) (mRet (mC (.bl false))) mPass))))
    (fun ρ h => ∃ (s3 s4 s9 : Option PV) (a b t : Int), ρ = [some (.rol (ns.map PV.int)), some (.ref 1), s2, s3, s4, none, none, some (.tup (ys.map stP)), none, s9] ∧ h = bagH P qLam ns a b t [] ∧ 0 ≤ a ∧ 0 ≤ b)
    (fun _ _ _ => rfl) ((List.range 3).map fun k => .int (k : Nat)) [some (.rol (ns.map PV.int)), some (.ref 1), s2, none, none, none, none, some (.tup (ys.map stP)), none, none] (bagH P qLam ns a b t []) ⟨_, _, _, a, b, t, rfl, rfl, x1, x2⟩
    (fun x _ ρ h ⟨s3, s4, s9, a, b, t, e1, e2, x1, x2⟩ => by
      subst e1
      subst e2
      obtain ⟨s4', s9', a', b', t', e, y1, y2⟩ := odd_body (P := P) (cs := ns) (a := a) (b := b) (t := t) (ys := ys) (r0 := some (.rol (ns.map PV.int))) (s2 := s2) (s4 := s4) (s5 := none) (s6 := none) (s8 := none) (s9 := s9) (k := x) hcs x1 x2 (by omega)
      exact ⟨_, _, _, rfl, e, some x, s4', s9', a', b', t', rfl, rfl, y1, y2⟩)
  obtain ⟨ρ1, h1, L1, s3, s4, s9, a1, b1, t1, hρ1, hh1, x3, x4⟩ := L1
  subst hρ1
  subst hh1
  have L2 := forL_inv (chk := fun _ => true) (t := .nm 3) (body := rdB P)
    (fun ρ h => ∃ (s3 s4 s5 s6 s8 : Option PV) (a b t : Int), ρ = [some (.rol (ns.map PV.int)), some (.ref 1), s2, s3, s4, s5, s6, some (.tup (ys.map stP)), s8, s9] ∧ h = bagH P qLam ns a b t [] ∧ 0 ≤ a ∧ 0 ≤ b)
    (fun _ _ _ => rfl) ((List.range 5).map fun k => .int (k : Nat)) [some (.rol (ns.map PV.int)), some (.ref 1), s2, s3, s4, none, none, some (.tup (ys.map stP)), none, s9] (bagH P qLam ns a1 b1 t1 []) ⟨_, _, _, _, _, a1, b1, t1, rfl, rfl, x3, x4⟩
    (fun x hx ρ h ⟨s3, s4, s5, s6, s8, a, b, t, e1, e2, x1, x2⟩ => by
      subst e1
      subst e2
      obtain ⟨k, _, rfl⟩ := List.mem_map.mp hx
      obtain ⟨s4', s5', s6', s8', a', b', t', e, y1, y2⟩ := read_body (P := P) (cs := ns) (a := a) (b := b) (t := t) (ys := ys) (r0 := some (.rol (ns.map PV.int))) (s2 := s2) (s4 := s4) (s5 := s5) (s6 := s6) (s8 := s8) (s9 := s9) (k := (k : Int)) hcs x1 x2 yl yok
      exact ⟨_, _, _, rfl, e, some (.int k), s4', s5', s6', s8', a', b', t', rfl, rfl, y1, y2⟩)
  obtain ⟨ρ2, h2, L2, s3', s4', s5', s6', s8', a2, b2, t2, hρ2, hh2, x5, x6⟩ := L2
  subst hρ2
  subst hh2
  have L3 := forL_inv (chk := fun _ => true) (t := .nm 9) (body := mIfS (tNot_ (tB_ (mCall (m__law_is_same 5) (mCons (mTold P qLam "read" zs__law_told 1 3 (mCall m_read_plan (mCons (mV 9) mNil))) (mCons (mTup (mCons (mC (.str "text")) (mCons (mC (.int 0)) mNil))) mNil))))) (mRet (mC (.bl false))) mPass)
    (fun ρ h => ∃ s9 : Option PV, ρ = [some (.rol (ns.map PV.int)), some (.ref 1), s2, s3', s4', s5', s6', some (.tup (ys.map stP)), s8', s9] ∧ h = bagH P qLam ns a2 b2 t2 [])
    (fun _ _ _ => rfl) [.non, .int 5, .tup [], .lst [.str "write 3\n"], .bl true] [some (.rol (ns.map PV.int)), some (.ref 1), s2, s3', s4', s5', s6', some (.tup (ys.map stP)), s8', s9] (bagH P qLam ns a2 b2 t2 []) ⟨_, rfl, rfl⟩
    (fun x hx ρ h ⟨s9, e1, e2⟩ => by
      subst e1
      subst e2
      have hk : pk x = true ∧ ∀ s, x ≠ .str s := by
        simp only [List.mem_cons, List.not_mem_nil, or_false] at hx
        rcases hx with rfl | rfl | rfl | rfl | rfl
        all_goals exact ⟨rfl, fun s z => by cases z⟩
      have rb : m_read_plan [x] (bagH P qLam ns a2 b2 t2 []) = .ex "BadText" ["line"] [.int 0] (bagH P qLam ns a2 b2 t2 []) := by
        refine def_ex (h1 := bagH P qLam ns a2 b2 t2 []) (ρ := [some x, none, none, none, none, none, none]) rfl ?_ (outX_same rfl)
        show b_read_plan [some x, none, none, none, none, none, none] _ = _
        unfold b_read_plan
        refine seq_ex ?_
        simp only [ev_mAsg, ev_mCall, ev_mCons, ev_mNil, mV, List.getElem?_cons_zero, ev_bind_ok, lines_bad hk.1 hk.2, ev_st_ex]
      have tm := told_mk (P := P) (cs := ns) (a := a2) (b := b2) (t := t2) (w := "read") (zs := zs__law_told) (i := 1) (n := 3) (j := 9) (g := m_read_plan) (ρ := [some (.rol (ns.map PV.int)), some (.ref 1), s2, s3', s4', s5', s6', some (.tup (ys.map stP)), s8', some x]) rfl
      rw [rb, told_text] at tm
      have sm := same_refl 5 (.tup [.str "text", .int 0]) (bagH P qLam ns a2 b2 t2 []) (by simp [sameOk])
      have z2 : (2 : Nat) ≤ sizeLine := by rw [sizeLine_eq]; decide
      refine ⟨_, [some (.rol (ns.map PV.int)), some (.ref 1), s2, s3', s4', s5', s6', some (.tup (ys.map stP)), s8', some x], bagH P qLam ns a2 b2 t2 [], rfl, ?_, some x, rfl, rfl⟩
      simp only [List.set_cons_succ, List.set_cons_zero, ev_mIfS, ev_tNot, ev_tB, ev_mCall, ev_mCons, ev_mNil, tm, ev_bind_ok, ev_mTup, ev_mC, List.length_cons, List.length_nil, Nat.zero_add, Nat.reduceAdd, z2, if_true, sm, ev_asB, Bool.not_true, Bool.false_eq_true, if_false, ev_st_ok, ev_mPass])
  obtain ⟨ρ3, h3, L3, s9', hρ3, hh3⟩ := L3
  subst hρ3
  subst hh3
  refine ⟨[.tab P qLam], def_rt (h1 := bagH P qLam ns a2 b2 t2 []) (v := .bl true) rfl ?_ (outF_nr (frz := true) (h := [.tab P qLam]) (e := [bagO ns a2 b2 t2]) rfl rfl)⟩
  show b_law P [some (.rol (ns.map PV.int)), none, none, none, none, none, none, none, none, none] [.tab P qLam] = _
  unfold b_law
  refine (seq_nx (ρ1 := [some (.rol (ns.map PV.int)), some (.ref 1), none, none, none, none, none, none, none, none]) (h1 := bagH P qLam ns 0 0 0 []) (by simp [mV, e1])).trans ?_
  refine (seq_nx (ρ1 := [some (.rol (ns.map PV.int)), some (.ref 1), none, none, none, none, none, some (.tup (ys.map stP)), none, none]) (h1 := bagH P qLam ns a b t []) (by simp [mV, e2])).trans ?_
  refine (first _).trans ?_
  have r3 := range1_ok 3 (by decide) (bagH P qLam ns a b t [])
  have i3 := mItA_eq (f := itRange1) (as := mCons (mC (.int 3)) mNil) (ρ := [some (.rol (ns.map PV.int)), some (.ref 1), s2, none, none, none, none, some (.tup (ys.map stP)), none, none]) (h := bagH P qLam ns a b t []) (ps := [.int 3]) rfl
  refine (seq_nx (for_eq (i3.trans r3) L1)).trans ?_
  have r5 := range1_ok 5 (by decide) (bagH P qLam ns a1 b1 t1 [])
  have i5 := mItA_eq (f := itRange1) (as := mCons (mC (.int 5)) mNil) (ρ := [some (.rol (ns.map PV.int)), some (.ref 1), s2, s3, s4, none, none, some (.tup (ys.map stP)), none, s9]) (h := bagH P qLam ns a1 b1 t1 []) (ps := [.int 5]) rfl
  refine (seq_nx (for_eq (i5.trans r5) L2)).trans ?_
  have ii : mIt (mLst false (mCons (mC .non) (mCons (mC (.int 5)) (mCons (mTup mNil) (mCons (mLst false (mCons (mC (.str "write 3\n")) mNil)) (mCons (mC (.bl true)) mNil)))))) [some (.rol (ns.map PV.int)), some (.ref 1), s2, s3', s4', s5', s6', some (.tup (ys.map stP)), s8', s9] (bagH P qLam ns a2 b2 t2 []) =
      .ok ⟨[.non, .int 5, .tup [], .lst [.str "write 3\n"], .bl true], fun _ => true⟩ (bagH P qLam ns a2 b2 t2 []) := by
    simp [mIt, sizeLine_eq, itSeq]
  refine (seq_nx (for_eq ii L3)).trans ?_
  have r0 := read_own (P := P) (cs := ns) (a := a2) (b := b2) (t := t2) (ys := []) (by decide) rfl
  have s0 := same_refl 5 (.tup []) (bagH P qLam ns a2 b2 t2 []) (by simp [sameOk])
  have p0 := ptext_eq (ys := []) rfl (by decide) (bagH P qLam ns a2 b2 t2 []) (by simp [planB])
  have t0 : textS [] = "" := rfl
  rw [t0] at r0 p0
  simp only [List.map_nil] at r0 p0
  have z0 : (0 : Nat) ≤ sizeLine := Nat.zero_le _
  have q0 : fEq (.str "") (.str "") (bagH P qLam ns a2 b2 t2 []) = some (.bl true, bagH P qLam ns a2 b2 t2 []) := by rw [fEq_str]; rfl
  simp only [ev_mRet, ev_mAnd, ev_mCall, ev_mCons, ev_mNil, ev_mC, ev_bind_ok, r0, ev_mTup, List.length_nil, z0, if_true, s0, ev_asB, ev_mBin, p0, q0, ev_opt_some, ev_st_ok]
end Ev
namespace Ev
open PySem PySem.Spec PyProof.Rows L2
/-! ### the text -/
def topS (i : Nat) : Stmt := PySem.Challenge.pw_lightfirst_k74_whole_plans_as_texts.main.body.getD i (.Pass ⟨0, 0, 0, 0⟩)
abbrev s_is_integer : Stmt := topS 5
abbrev s_is_within : Stmt := topS 6
abbrev s_is_pair : Stmt := topS 7
abbrev s_is_step : Stmt := topS 13
abbrev s_backwards : Stmt := topS 14
abbrev s_turned_back : Stmt := topS 15
abbrev s_number_in : Stmt := topS 19
abbrev s_lines_in : Stmt := topS 20
abbrev s_check_steps : Stmt := topS 21
abbrev s_plan_text : Stmt := topS 22
abbrev s_step_in : Stmt := topS 23
abbrev s_read_plan : Stmt := topS 24
abbrev s__law_mixed : Stmt := topS 26
abbrev s__law_bag : Stmt := topS 27
abbrev s__law_draw : Stmt := topS 28
abbrev s__law_drawn : Stmt := topS 29
abbrev s__law_is_plan : Stmt := topS 30
abbrev s__law_text : Stmt := topS 31
abbrev s__law_step : Stmt := topS 32
abbrev s__law_due : Stmt := topS 33
abbrev s__law_told : Stmt := topS 34
abbrev s__law_is_same : Stmt := topS 35
abbrev s__law_odd : Stmt := topS 36
abbrev s__law_spoilt : Stmt := topS 37
abbrev s__law_backwards : Stmt := topS 38
abbrev s_law : Stmt := topS 39
theorem sc_is_integer : FnScope ["thing"] ["thing"] (defScope s_is_integer) := ⟨rfl, rfl, rfl, by decide +kernel, rfl, by decide +kernel, by decide +kernel⟩
theorem sc_is_within : FnScope ["thing", "least", "most"] ["thing", "least", "most"] (defScope s_is_within) := ⟨rfl, rfl, rfl, by decide +kernel, rfl, by decide +kernel, by decide +kernel⟩
theorem sc_is_pair : FnScope ["thing"] ["thing"] (defScope s_is_pair) := ⟨rfl, rfl, rfl, by decide +kernel, rfl, by decide +kernel, by decide +kernel⟩
theorem sc_is_step : FnScope ["thing", "pieces"] ["thing", "pieces"] (defScope s_is_step) := ⟨rfl, rfl, rfl, by decide +kernel, rfl, by decide +kernel, by decide +kernel⟩
theorem sc_backwards : FnScope ["plan", "word", "piece"] ["plan"] (defScope s_backwards) := ⟨rfl, rfl, rfl, by decide +kernel, rfl, by decide +kernel, by decide +kernel⟩
theorem sc_turned_back : FnScope ["plan", "step"] ["plan"] (defScope s_turned_back) := ⟨rfl, rfl, rfl, by decide +kernel, rfl, by decide +kernel, by decide +kernel⟩
theorem sc_number_in : FnScope ["word", "sign"] ["word"] (defScope s_number_in) := ⟨rfl, rfl, rfl, by decide +kernel, rfl, by decide +kernel, by decide +kernel⟩
theorem sc_lines_in : FnScope ["text", "lines"] ["text"] (defScope s_lines_in) := ⟨rfl, rfl, rfl, by decide +kernel, rfl, by decide +kernel, by decide +kernel⟩
theorem sc_check_steps : FnScope ["plan", "step"] ["plan"] (defScope s_check_steps) := ⟨rfl, rfl, rfl, by decide +kernel, rfl, by decide +kernel, by decide +kernel⟩
theorem sc_plan_text : FnScope ["plan", "word", "piece"] ["plan"] (defScope s_plan_text) := ⟨rfl, rfl, rfl, by decide +kernel, rfl, by decide +kernel, by decide +kernel⟩
theorem sc_step_in : FnScope ["line", "words", "piece"] ["line"] (defScope s_step_in) := ⟨rfl, rfl, rfl, by decide +kernel, rfl, by decide +kernel, by decide +kernel⟩
theorem sc_read_plan : FnScope ["text", "lines", "rest", "found", "number", "line", "step"] ["text"] (defScope s_read_plan) := ⟨rfl, rfl, rfl, by decide +kernel, rfl, by decide +kernel, by decide +kernel⟩
theorem sc__law_mixed : FnScope ["_law_cell", "_law_turn", "_law_number"] ["_law_cell", "_law_turn"] (defScope s__law_mixed) := ⟨rfl, rfl, rfl, by decide +kernel, rfl, by decide +kernel, by decide +kernel⟩
theorem sc__law_bag : FnScope ["_law_script", "_law_cell"] ["_law_script"] (defScope s__law_bag) := ⟨rfl, rfl, rfl, by decide +kernel, rfl, by decide +kernel, by decide +kernel⟩
theorem sc__law_draw : FnScope ["_law_bag_here", "_law_many", "_law_found", "_law_cells", "_law_at", "_law_cell"] ["_law_bag_here", "_law_many"] (defScope s__law_draw) := ⟨rfl, rfl, rfl, by decide +kernel, rfl, by decide +kernel, by decide +kernel⟩
theorem sc__law_drawn : FnScope ["_law_bag_here", "_law_most", "_law_found", "_law_k"] ["_law_bag_here"] (defScope s__law_drawn) := ⟨rfl, rfl, rfl, by decide +kernel, rfl, by decide +kernel, by decide +kernel⟩
theorem sc__law_is_plan : FnScope ["_law_thing", "_law_step_here"] ["_law_thing"] (defScope s__law_is_plan) := ⟨rfl, rfl, rfl, by decide +kernel, rfl, by decide +kernel, by decide +kernel⟩
theorem sc__law_text : FnScope ["_law_plan", "_law_word", "_law_piece"] ["_law_plan"] (defScope s__law_text) := ⟨rfl, rfl, rfl, by decide +kernel, rfl, by decide +kernel, by decide +kernel⟩
theorem sc__law_step : FnScope ["_law_line", "_law_words", "_law_word", "_law_sign"] ["_law_line"] (defScope s__law_step) := ⟨rfl, rfl, rfl, by decide +kernel, rfl, by decide +kernel, by decide +kernel⟩
theorem sc__law_due : FnScope ["_law_text_here", "_law_lines", "_law_found", "_law_at", "_law_step_here"] ["_law_text_here"] (defScope s__law_due) := ⟨rfl, rfl, rfl, by decide +kernel, rfl, by decide +kernel, by decide +kernel⟩
theorem sc__law_told : FnScope ["_law_call", "_law_found", "e"] ["_law_call"] (defScope s__law_told) := ⟨rfl, rfl, rfl, by decide +kernel, rfl, by decide +kernel, by decide +kernel⟩
theorem sc__law_is_same : FnScope ["_law_told_here", "_law_due_here", "_law_k"] ["_law_told_here", "_law_due_here"] (defScope s__law_is_same) := ⟨rfl, rfl, rfl, by decide +kernel, rfl, by decide +kernel, by decide +kernel⟩
theorem sc__law_odd : FnScope ["_law_bag_here", "_law_plan", "_law_strange", "_law_at"] ["_law_bag_here", "_law_plan"] (defScope s__law_odd) := ⟨rfl, rfl, rfl, by decide +kernel, rfl, by decide +kernel, by decide +kernel⟩
theorem sc__law_spoilt : FnScope ["_law_bag_here", "_law_text_here", "_law_signs", "_law_sign", "_law_at", "_law_kind", "_law_lines", "_law_here", "_law_more"] ["_law_bag_here", "_law_text_here"] (defScope s__law_spoilt) := ⟨rfl, rfl, rfl, by decide +kernel, rfl, by decide +kernel, by decide +kernel⟩
theorem sc__law_backwards : FnScope ["_law_text_here", "_law_lines", "_law_found", "_law_line", "_law_word", "_law_piece"] ["_law_text_here"] (defScope s__law_backwards) := ⟨rfl, rfl, rfl, by decide +kernel, rfl, by decide +kernel, by decide +kernel⟩
theorem sc_law : FnScope ["_law_script", "_law_bag_here", "_law_text_here", "_law_k", "_law_due_here", "_law_j", "_law_told_here", "_law_plan", "_law_some", "_law_thing"] ["_law_script"] (defScope s_law) := ⟨rfl, rfl, rfl, by decide +kernel, rfl, by decide +kernel, by decide +kernel⟩
structure Ads where
  f_is_integer : Addr
  fd_is_integer : FuncData
  f_is_within : Addr
  fd_is_within : FuncData
  f_is_pair : Addr
  fd_is_pair : FuncData
  f_is_step : Addr
  fd_is_step : FuncData
  f_backwards : Addr
  fd_backwards : FuncData
  f_turned_back : Addr
  fd_turned_back : FuncData
  f_number_in : Addr
  fd_number_in : FuncData
  f_lines_in : Addr
  fd_lines_in : FuncData
  f_check_steps : Addr
  fd_check_steps : FuncData
  f_plan_text : Addr
  fd_plan_text : FuncData
  f_step_in : Addr
  fd_step_in : FuncData
  f_read_plan : Addr
  fd_read_plan : FuncData
  f__law_mixed : Addr
  fd__law_mixed : FuncData
  f__law_bag : Addr
  fd__law_bag : FuncData
  f__law_draw : Addr
  fd__law_draw : FuncData
  f__law_drawn : Addr
  fd__law_drawn : FuncData
  f__law_is_plan : Addr
  fd__law_is_plan : FuncData
  f__law_text : Addr
  fd__law_text : FuncData
  f__law_step : Addr
  fd__law_step : FuncData
  f__law_due : Addr
  fd__law_due : FuncData
  f__law_told : Addr
  fd__law_told : FuncData
  f__law_is_same : Addr
  fd__law_is_same : FuncData
  f__law_odd : Addr
  fd__law_odd : FuncData
  f__law_spoilt : Addr
  fd__law_spoilt : FuncData
  f__law_backwards : Addr
  fd__law_backwards : FuncData
  f_law : Addr
  fd_law : FuncData
  C_KeepError : Addr
  C_BadPlan : Addr
  C_BadText : Addr
  fI_BadText : Addr
  q_BadText : PySem.FldX_line.Ps
structure Top (P : Program) (K : PySem.W.Frag) (mg : Str → Option Value) (a : Ads) : Prop where
  F_is_integer : Fun K "is_integer" "is_integer" s_is_integer a.f_is_integer a.fd_is_integer
  b_is_integer : Binds K a.fd_is_integer ["thing"] []
  g_is_integer : mg "is_integer" = some (.ref a.f_is_integer)
  F_is_within : Fun K "is_within" "is_within" s_is_within a.f_is_within a.fd_is_within
  b_is_within : Binds K a.fd_is_within ["thing", "least", "most"] []
  g_is_within : mg "is_within" = some (.ref a.f_is_within)
  F_is_pair : Fun K "is_pair" "is_pair" s_is_pair a.f_is_pair a.fd_is_pair
  b_is_pair : Binds K a.fd_is_pair ["thing"] []
  g_is_pair : mg "is_pair" = some (.ref a.f_is_pair)
  F_is_step : Fun K "is_step" "is_step" s_is_step a.f_is_step a.fd_is_step
  b_is_step : Binds K a.fd_is_step ["thing", "pieces"] []
  g_is_step : mg "is_step" = some (.ref a.f_is_step)
  F_backwards : Fun K "backwards" "backwards" s_backwards a.f_backwards a.fd_backwards
  b_backwards : Binds K a.fd_backwards ["plan"] []
  g_backwards : mg "backwards" = some (.ref a.f_backwards)
  F_turned_back : Fun K "turned_back" "turned_back" s_turned_back a.f_turned_back a.fd_turned_back
  b_turned_back : Binds K a.fd_turned_back ["plan"] []
  g_turned_back : mg "turned_back" = some (.ref a.f_turned_back)
  F_number_in : Fun K "number_in" "number_in" s_number_in a.f_number_in a.fd_number_in
  b_number_in : Binds K a.fd_number_in ["word"] []
  g_number_in : mg "number_in" = some (.ref a.f_number_in)
  F_lines_in : Fun K "lines_in" "lines_in" s_lines_in a.f_lines_in a.fd_lines_in
  b_lines_in : Binds K a.fd_lines_in ["text"] []
  g_lines_in : mg "lines_in" = some (.ref a.f_lines_in)
  F_check_steps : Fun K "check_steps" "check_steps" s_check_steps a.f_check_steps a.fd_check_steps
  b_check_steps : Binds K a.fd_check_steps ["plan"] []
  g_check_steps : mg "check_steps" = some (.ref a.f_check_steps)
  F_plan_text : Fun K "plan_text" "plan_text" s_plan_text a.f_plan_text a.fd_plan_text
  b_plan_text : Binds K a.fd_plan_text ["plan"] []
  g_plan_text : mg "plan_text" = some (.ref a.f_plan_text)
  F_step_in : Fun K "step_in" "step_in" s_step_in a.f_step_in a.fd_step_in
  b_step_in : Binds K a.fd_step_in ["line"] []
  g_step_in : mg "step_in" = some (.ref a.f_step_in)
  F_read_plan : Fun K "read_plan" "read_plan" s_read_plan a.f_read_plan a.fd_read_plan
  b_read_plan : Binds K a.fd_read_plan ["text"] []
  g_read_plan : mg "read_plan" = some (.ref a.f_read_plan)
  F__law_mixed : Fun K "_law_mixed" "_law_mixed" s__law_mixed a.f__law_mixed a.fd__law_mixed
  b__law_mixed : Binds K a.fd__law_mixed ["_law_cell", "_law_turn"] []
  g__law_mixed : mg "_law_mixed" = some (.ref a.f__law_mixed)
  F__law_bag : Fun K "_law_bag" "_law_bag" s__law_bag a.f__law_bag a.fd__law_bag
  b__law_bag : Binds K a.fd__law_bag ["_law_script"] []
  g__law_bag : mg "_law_bag" = some (.ref a.f__law_bag)
  F__law_draw : Fun K "_law_draw" "_law_draw" s__law_draw a.f__law_draw a.fd__law_draw
  b__law_draw : Binds K a.fd__law_draw ["_law_bag_here", "_law_many"] []
  g__law_draw : mg "_law_draw" = some (.ref a.f__law_draw)
  F__law_drawn : Fun K "_law_drawn" "_law_drawn" s__law_drawn a.f__law_drawn a.fd__law_drawn
  b__law_drawn : Binds K a.fd__law_drawn ["_law_bag_here"] []
  g__law_drawn : mg "_law_drawn" = some (.ref a.f__law_drawn)
  F__law_is_plan : Fun K "_law_is_plan" "_law_is_plan" s__law_is_plan a.f__law_is_plan a.fd__law_is_plan
  b__law_is_plan : Binds K a.fd__law_is_plan ["_law_thing"] []
  g__law_is_plan : mg "_law_is_plan" = some (.ref a.f__law_is_plan)
  F__law_text : Fun K "_law_text" "_law_text" s__law_text a.f__law_text a.fd__law_text
  b__law_text : Binds K a.fd__law_text ["_law_plan"] []
  g__law_text : mg "_law_text" = some (.ref a.f__law_text)
  F__law_step : Fun K "_law_step" "_law_step" s__law_step a.f__law_step a.fd__law_step
  b__law_step : Binds K a.fd__law_step ["_law_line"] []
  g__law_step : mg "_law_step" = some (.ref a.f__law_step)
  F__law_due : Fun K "_law_due" "_law_due" s__law_due a.f__law_due a.fd__law_due
  b__law_due : Binds K a.fd__law_due ["_law_text_here"] []
  g__law_due : mg "_law_due" = some (.ref a.f__law_due)
  F__law_told : Fun K "_law_told" "_law_told" s__law_told a.f__law_told a.fd__law_told
  b__law_told : Binds K a.fd__law_told ["_law_call"] []
  g__law_told : mg "_law_told" = some (.ref a.f__law_told)
  F__law_is_same : Fun K "_law_is_same" "_law_is_same" s__law_is_same a.f__law_is_same a.fd__law_is_same
  b__law_is_same : Binds K a.fd__law_is_same ["_law_told_here", "_law_due_here"] []
  g__law_is_same : mg "_law_is_same" = some (.ref a.f__law_is_same)
  F__law_odd : Fun K "_law_odd" "_law_odd" s__law_odd a.f__law_odd a.fd__law_odd
  b__law_odd : Binds K a.fd__law_odd ["_law_bag_here", "_law_plan"] []
  g__law_odd : mg "_law_odd" = some (.ref a.f__law_odd)
  F__law_spoilt : Fun K "_law_spoilt" "_law_spoilt" s__law_spoilt a.f__law_spoilt a.fd__law_spoilt
  b__law_spoilt : Binds K a.fd__law_spoilt ["_law_bag_here", "_law_text_here"] []
  g__law_spoilt : mg "_law_spoilt" = some (.ref a.f__law_spoilt)
  F__law_backwards : Fun K "_law_backwards" "_law_backwards" s__law_backwards a.f__law_backwards a.fd__law_backwards
  b__law_backwards : Binds K a.fd__law_backwards ["_law_text_here"] []
  g__law_backwards : mg "_law_backwards" = some (.ref a.f__law_backwards)
  F_law : Fun K "law" "law" s_law a.f_law a.fd_law
  b_law : Binds K a.fd_law ["_law_script"] []
  g_law : mg "law" = some (.ref a.f_law)
  z_abs : mg "abs" = none
  z_all : mg "all" = none
  z_bool : mg "bool" = none
  z_enumerate : mg "enumerate" = none
  z_int : mg "int" = none
  z_isinstance : mg "isinstance" = none
  z_len : mg "len" = none
  z_list : mg "list" = none
  z_range : mg "range" = none
  z_str : mg "str" = none
  z_tuple : mg "tuple" = none
  c_DROP : ∃ t, mg "DROP" = some (.str "drop" t)
  c_FIGURES : ∃ t, mg "FIGURES" = some (.str "0123456789" t)
  c_MOST_FIGURES : ∃ t, mg "MOST_FIGURES" = some (.int 9 t)
  c_MOST_PIECE : ∃ t, mg "MOST_PIECE" = some (.int 39 t)
  c_MOST_STEPS : ∃ t, mg "MOST_STEPS" = some (.int 2000 t)
  c_WRITE : ∃ t, mg "WRITE" = some (.str "write" t)
  k_KeepError : mg "KeepError" = some (.ref a.C_KeepError)
  k_BadPlan : mg "BadPlan" = some (.ref a.C_BadPlan)
  k_BadText : mg "BadText" = some (.ref a.C_BadText)
  x0_BadPlan : Ex0 K mg "BadPlan" a.C_BadPlan
  x1_BadText : PySem.FldX_line.Txt a.q_BadText P K mg "BadText" a.C_BadText a.fI_BadText
  ec_BadText : ExcC K a.C_BadText
  ki_BadText_KeepError : PySem.W.kitOne K (.ref a.C_BadText) (.ref a.C_KeepError) = some true
  xf_BadText : XfC K a.C_BadText
  xn_BadText_line : PySem.W.findIn K (.ref a.C_BadText) "line" = some none
  ec_BadPlan : ExcC K a.C_BadPlan
  ki_BadPlan_KeepError : PySem.W.kitOne K (.ref a.C_BadPlan) (.ref a.C_KeepError) = some true
  em_BadText_BadText : PySem.W.exmOne K (.ref a.C_BadText) (.ref a.C_BadText) = some true
  em_BadPlan_BadText : PySem.W.exmOne K (.ref a.C_BadPlan) (.ref a.C_BadText) = some false
  em_BadPlan_BadPlan : PySem.W.exmOne K (.ref a.C_BadPlan) (.ref a.C_BadPlan) = some true
section
variable {P : Program} {w : World} {K : PySem.W.Frag} {mg : Str → Option Value} {base : Heap} {a : Ads}
theorem ok_is_integer (T : Top P K mg a) : FnM P w K mg base 1 a.f_is_integer a.fd_is_integer ["thing"] m_is_integer :=
  FnM.of true T.F_is_integer sc_is_integer fun cdv A outer s H E hr =>
  (ms_one (ms_ret (me_and (me_callB cm_isi T.z_isinstance boot_isinstance (ma_cons (me_v 0) (ma_cons (me_ty T.z_int) ma_nil))) (me_one (me_not (me_callB cm_isi T.z_isinstance boot_isinstance (ma_cons (me_v 0) (ma_cons (me_ty T.z_bool) ma_nil))))))))
theorem ok_is_within (T : Top P K mg a) (X_is_integer : FnM P w K mg base 1 a.f_is_integer a.fd_is_integer ["thing"] m_is_integer) : FnM P w K mg base 2 a.f_is_within a.fd_is_within ["thing", "least", "most"] m_is_within :=
  have L_is_integer : ∀ qs h, m_is_integer qs h ≠ .bad → qs.length = 1 := fun _ _ e => mDef_len e; FnM.of true T.F_is_within sc_is_within fun cdv A outer s H E hr =>
  (ms_one (ms_ret (me_and (me_call X_is_integer L_is_integer (hr.mono (by decide)) T.g_is_integer T.F_is_integer.kp T.b_is_integer (takes_of rfl rfl rfl rfl) (ma_cons (me_v 0) ma_nil)) (me_one (me_chain om_le om_le (me_v 1) (me_v 0) (me_v 2))))))
theorem ok_is_pair (T : Top P K mg a) : FnM P w K mg base 1 a.f_is_pair a.fd_is_pair ["thing"] m_is_pair :=
  FnM.of true T.F_is_pair sc_is_pair fun cdv A outer s H E hr =>
  (ms_one (ms_ret (me_and (me_callB cm_isi T.z_isinstance boot_isinstance (ma_cons (me_v 0) (ma_cons (me_ty T.z_tuple) ma_nil))) (me_one (me_cmp (om_eq hr.units) (me_callB cm_len T.z_len boot_len (ma_cons (me_v 0) ma_nil)) me_int)))))
theorem ok_is_step (T : Top P K mg a) (X_is_within : FnM P w K mg base 2 a.f_is_within a.fd_is_within ["thing", "least", "most"] m_is_within) (X_is_pair : FnM P w K mg base 1 a.f_is_pair a.fd_is_pair ["thing"] m_is_pair) : FnM P w K mg base 3 a.f_is_step a.fd_is_step ["thing", "pieces"] m_is_step :=
  have L_is_within : ∀ qs h, m_is_within qs h ≠ .bad → qs.length = 3 := fun _ _ e => mDef_len e; have L_is_pair : ∀ qs h, m_is_pair qs h ≠ .bad → qs.length = 1 := fun _ _ e => mDef_len e; FnM.of true T.F_is_step sc_is_step fun cdv A outer s H E hr =>
  (ms_cons (ms_if (mt_w (mw_or (mt_not (mt_val (me_call X_is_pair L_is_pair (hr.mono (by decide)) T.g_is_pair T.F_is_pair.kp T.b_is_pair (takes_of rfl rfl rfl rfl) (ma_cons (me_v 0) ma_nil)))) (mw_or (mt_not (mt_val (me_callB cm_isi T.z_isinstance boot_isinstance (ma_cons (me_ix (me_v 0) me_int) (ma_cons (me_ty T.z_str) ma_nil))))) (mw_or1 (mt_cmp om_notin (me_ix (me_v 0) me_int) (me_tup (ma_cons (me_kstr T.c_WRITE) (ma_cons (me_kstr T.c_DROP) ma_nil)))))))) (ms_one (ms_ret me_bl)) ms_nil)
  (ms_one (ms_ret (me_call X_is_within L_is_within (hr.mono (by decide)) T.g_is_within T.F_is_within.kp T.b_is_within (takes_of rfl rfl rfl rfl) (ma_cons (me_ix (me_v 0) me_int) (ma_cons me_int (ma_cons (me_op om_subI (me_v 1) me_int) ma_nil)))))))
theorem ok_backwards (T : Top P K mg a) : FnM P w K mg base 1 a.f_backwards a.fd_backwards ["plan"] m_backwards :=
  FnM.of true T.F_backwards sc_backwards fun cdv A outer s H E hr =>
  (ms_one (ms_ret (me_callTy cm_tuple T.z_tuple boot_tuple (ma_cons (me_lc (t := (.tp [(.nm 1), (.nm 2)])) (g := gTg K (.tp [(.nm 1), (.nm 2)])) false rfl sc_backwards.nd (mi_seq (me_revT (me_v 0))) (blkOk_by (own := [("word", 1), ("piece", 2)]) rfl) (fun _ _ _ _ _ => (pg_tup rfl (pgs_cons (pg_name (i := 1) sc_backwards.nd rfl (by first | exact Or.inl rfl | exact Or.inr rfl)) (pgs_cons (pg_name (i := 2) sc_backwards.nd rfl (by first | exact Or.inl rfl | exact Or.inr rfl)) pgs_nil)))) (fun _ _ _ _ _ => mts_nil) (fun _ _ _ _ _ => (me_tup (ma_cons (me_if (mt_cmp (om_eq hr.units) (me_v 1) (me_kstr T.c_WRITE)) (me_kstr T.c_DROP) (me_kstr T.c_WRITE)) (ma_cons (me_v 2) ma_nil))))) ma_nil))))
theorem ok_turned_back (T : Top P K mg a) (X_is_step : FnM P w K mg base 3 a.f_is_step a.fd_is_step ["thing", "pieces"] m_is_step) (X_backwards : FnM P w K mg base 1 a.f_backwards a.fd_backwards ["plan"] m_backwards) : FnM P w K mg base 4 a.f_turned_back a.fd_turned_back ["plan"] m_turned_back :=
  have L_is_step : ∀ qs h, m_is_step qs h ≠ .bad → qs.length = 2 := fun _ _ e => mDef_len e; have L_backwards : ∀ qs h, m_backwards qs h ≠ .bad → qs.length = 1 := fun _ _ e => mDef_len e; FnM.of true T.F_turned_back sc_turned_back fun cdv A outer s H E hr =>
  (ms_cons (ms_if (mt_w (mw_or (mt_not (mt_val (me_callB cm_isi T.z_isinstance boot_isinstance (ma_cons (me_v 0) (ma_cons (me_ty T.z_tuple) ma_nil))))) (mw_or1 (mt_cmp om_gt (me_callB cm_len T.z_len boot_len (ma_cons (me_v 0) ma_nil)) (me_kint T.c_MOST_STEPS))))) (ms_one (ms_raise0 rfl T.x0_BadPlan (takes_of rfl rfl rfl rfl))) ms_nil)
  (ms_cons (ms_if (mt_not (mt_val (me_callB (cm_all rfl) T.z_all boot_all (ma_cons (me_lc (t := (.nm 1)) (g := gTg K (.nm 1)) false rfl sc_turned_back.nd (mi_seq (me_v 0)) (blkOk_by (own := [("step", 1)]) rfl) (fun _ _ _ _ _ => (pg_name (i := 1) sc_turned_back.nd rfl (by first | exact Or.inl rfl | exact Or.inr rfl))) (fun _ _ _ _ _ => mts_nil) (fun _ _ _ _ _ => (me_call X_is_step L_is_step (hr.mono (by decide)) T.g_is_step T.F_is_step.kp T.b_is_step LamX.takes0 (ma_cons (me_v 1) (ma_cons (me_op (om_add false) (me_kint T.c_MOST_PIECE) me_int) ma_nil))))) ma_nil)))) (ms_one (ms_raise0 rfl T.x0_BadPlan (takes_of rfl rfl rfl rfl))) ms_nil)
  (ms_one (ms_ret (me_call X_backwards L_backwards (hr.mono (by decide)) T.g_backwards T.F_backwards.kp T.b_backwards (takes_of rfl rfl rfl rfl) (ma_cons (me_v 0) ma_nil))))))
theorem ok_number_in (T : Top P K mg a) : FnM P w K mg base 1 a.f_number_in a.fd_number_in ["word"] m_number_in :=
  FnM.of true T.F_number_in sc_number_in fun cdv A outer s H E hr =>
  (ms_cons (ms_if (mt_w (mw_or (mt_not (mt_chain om_le om_le me_int (me_callB cm_len T.z_len boot_len (ma_cons (me_v 0) ma_nil)) (me_kint T.c_MOST_FIGURES))) (mw_or1 (mt_not (mt_val (me_callB (cm_all rfl) T.z_all boot_all (ma_cons (me_lc (t := (.nm 1)) (g := gTg K (.nm 1)) false rfl sc_number_in.nd (mi_seq (me_v 0)) (blkOk_by (own := [("sign", 1)]) rfl) (fun _ _ _ _ _ => (pg_name (i := 1) sc_number_in.nd rfl (by first | exact Or.inl rfl | exact Or.inr rfl))) (fun _ _ _ _ _ => mts_nil) (fun _ _ _ _ _ => (me_cmp om_in (me_v 1) (me_kstr T.c_FIGURES)))) ma_nil))))))) (ms_one (ms_ret me_non)) ms_nil)
  (ms_one (ms_ret (me_if (mt_w (mw_and (mt_cmp om_gt (me_callB cm_len T.z_len boot_len (ma_cons (me_v 0) ma_nil)) me_int) (mw_and1 (mt_cmp (om_eq hr.units) (me_ix (me_v 0) me_int) me_str)))) me_non (me_callTy cm_int T.z_int boot_int (ma_cons (me_v 0) ma_nil))))))
theorem ok_lines_in (T : Top P K mg a) : FnM P w K mg base 1 a.f_lines_in a.fd_lines_in ["text"] m_lines_in :=
  FnM.of true T.F_lines_in sc_lines_in fun cdv A outer s H E hr =>
  (ms_cons (ms_if (mt_not (mt_val (me_callB cm_isi T.z_isinstance boot_isinstance (ma_cons (me_v 0) (ma_cons (me_ty T.z_str) ma_nil))))) (ms_one (X_line.ms_raise rfl T.x1_BadText hr (takes_of rfl rfl rfl rfl) (ma_cons me_int ma_nil))) ms_nil)
  (ms_cons (ms_set 1 (me_split false (me_v 0) (ma_cons me_str ma_nil)) sc_lines_in.nd)
  (ms_one (ms_ret (me_tup (ma_cons (me_sl false (me_v 1) mp_none (mp_some (me_un um_neg me_int))) (ma_cons (me_ix (me_v 1) (me_un um_neg me_int)) ma_nil)))))))
theorem ok_check_steps (T : Top P K mg a) (X_is_step : FnM P w K mg base 3 a.f_is_step a.fd_is_step ["thing", "pieces"] m_is_step) : FnM P w K mg base 4 a.f_check_steps a.fd_check_steps ["plan"] m_check_steps :=
  have L_is_step : ∀ qs h, m_is_step qs h ≠ .bad → qs.length = 2 := fun _ _ e => mDef_len e; FnM.of true T.F_check_steps sc_check_steps fun cdv A outer s H E hr =>
  (ms_cons (ms_if (mt_w (mw_or (mt_not (mt_val (me_callB cm_isi T.z_isinstance boot_isinstance (ma_cons (me_v 0) (ma_cons (me_ty T.z_tuple) ma_nil))))) (mw_or1 (mt_cmp om_gt (me_callB cm_len T.z_len boot_len (ma_cons (me_v 0) ma_nil)) (me_kint T.c_MOST_STEPS))))) (ms_one (ms_raise0 rfl T.x0_BadPlan (takes_of rfl rfl rfl rfl))) ms_nil)
  (ms_one (ms_if (mt_not (mt_val (me_callB (cm_all rfl) T.z_all boot_all (ma_cons (me_lc (t := (.nm 1)) (g := gTg K (.nm 1)) false rfl sc_check_steps.nd (mi_seq (me_v 0)) (blkOk_by (own := [("step", 1)]) rfl) (fun _ _ _ _ _ => (pg_name (i := 1) sc_check_steps.nd rfl (by first | exact Or.inl rfl | exact Or.inr rfl))) (fun _ _ _ _ _ => mts_nil) (fun _ _ _ _ _ => (me_call X_is_step L_is_step (hr.mono (by decide)) T.g_is_step T.F_is_step.kp T.b_is_step LamX.takes0 (ma_cons (me_v 1) (ma_cons (me_op (om_add false) (me_kint T.c_MOST_PIECE) me_int) ma_nil))))) ma_nil)))) (ms_one (ms_raise0 rfl T.x0_BadPlan (takes_of rfl rfl rfl rfl))) ms_nil)))
theorem ok_plan_text (T : Top P K mg a) (X_check_steps : FnM P w K mg base 4 a.f_check_steps a.fd_check_steps ["plan"] m_check_steps) : FnM P w K mg base 5 a.f_plan_text a.fd_plan_text ["plan"] m_plan_text :=
  have L_check_steps : ∀ qs h, m_check_steps qs h ≠ .bad → qs.length = 1 := fun _ _ e => mDef_len e; FnM.of true T.F_plan_text sc_plan_text fun cdv A outer s H E hr =>
  (ms_cons (ms_expr (me_call X_check_steps L_check_steps (hr.mono (by decide)) T.g_check_steps T.F_check_steps.kp T.b_check_steps (takes_of rfl rfl rfl rfl) (ma_cons (me_v 0) ma_nil)))
  (ms_one (ms_ret (me_join me_str (ma_cons (me_lc (t := (.tp [(.nm 1), (.nm 2)])) (g := gTg K (.tp [(.nm 1), (.nm 2)])) false rfl sc_plan_text.nd (mi_seq (me_v 0)) (blkOk_by (own := [("word", 1), ("piece", 2)]) rfl) (fun _ _ _ _ _ => (pg_tup rfl (pgs_cons (pg_name (i := 1) sc_plan_text.nd rfl (by first | exact Or.inl rfl | exact Or.inr rfl)) (pgs_cons (pg_name (i := 2) sc_plan_text.nd rfl (by first | exact Or.inl rfl | exact Or.inr rfl)) pgs_nil)))) (fun _ _ _ _ _ => mts_nil) (fun _ _ _ _ _ => (me_op (om_add false) (me_op (om_add false) (me_op (om_add false) (me_v 1) me_str) (me_callTy cm_str T.z_str boot_str (ma_cons (me_v 2) ma_nil))) me_str))) ma_nil)))))
theorem ok_step_in (T : Top P K mg a) (X_number_in : FnM P w K mg base 1 a.f_number_in a.fd_number_in ["word"] m_number_in) : FnM P w K mg base 2 a.f_step_in a.fd_step_in ["line"] m_step_in :=
  have L_number_in : ∀ qs h, m_number_in qs h ≠ .bad → qs.length = 1 := fun _ _ e => mDef_len e; FnM.of true T.F_step_in sc_step_in fun cdv A outer s H E hr =>
  (ms_cons (ms_set 1 (me_split false (me_v 0) (ma_cons me_str ma_nil)) sc_step_in.nd)
  (ms_cons (ms_if (mt_w (mw_or (mt_cmp (om_ne hr.units) (me_callB cm_len T.z_len boot_len (ma_cons (me_v 1) ma_nil)) me_int) (mw_or1 (mt_cmp om_notin (me_ix (me_v 1) me_int) (me_tup (ma_cons (me_kstr T.c_WRITE) (ma_cons (me_kstr T.c_DROP) ma_nil))))))) (ms_one (ms_ret me_non)) ms_nil)
  (ms_cons (ms_set 2 (me_call X_number_in L_number_in (hr.mono (by decide)) T.g_number_in T.F_number_in.kp T.b_number_in (takes_of rfl rfl rfl rfl) (ma_cons (me_ix (me_v 1) me_int) ma_nil)) sc_step_in.nd)
  (ms_one (ms_ret (me_if (mt_cmp om_isN (me_v 2) me_non) me_non (me_tup (ma_cons (me_ix (me_v 1) me_int) (ma_cons (me_v 2) ma_nil)))))))))
theorem ok_read_plan (T : Top P K mg a) (X_lines_in : FnM P w K mg base 1 a.f_lines_in a.fd_lines_in ["text"] m_lines_in) (X_check_steps : FnM P w K mg base 4 a.f_check_steps a.fd_check_steps ["plan"] m_check_steps) (X_step_in : FnM P w K mg base 2 a.f_step_in a.fd_step_in ["line"] m_step_in) : FnM P w K mg base 5 a.f_read_plan a.fd_read_plan ["text"] m_read_plan :=
  have L_lines_in : ∀ qs h, m_lines_in qs h ≠ .bad → qs.length = 1 := fun _ _ e => mDef_len e; have L_check_steps : ∀ qs h, m_check_steps qs h ≠ .bad → qs.length = 1 := fun _ _ e => mDef_len e; have L_step_in : ∀ qs h, m_step_in qs h ≠ .bad → qs.length = 1 := fun _ _ e => mDef_len e; FnM.of true T.F_read_plan sc_read_plan fun cdv A outer s H E hr =>
  (ms_cons (ms_asg (t := (.tp [(.nm 1), (.nm 2)])) (me_call X_lines_in L_lines_in (hr.mono (by decide)) T.g_lines_in T.F_lines_in.kp T.b_lines_in (takes_of rfl rfl rfl rfl) (ma_cons (me_v 0) ma_nil)) (pg_tup rfl (pgs_cons (pg_name (i := 1) sc_read_plan.nd rfl (by first | exact Or.inl rfl | exact Or.inr rfl)) (pgs_cons (pg_name (i := 2) sc_read_plan.nd rfl (by first | exact Or.inl rfl | exact Or.inr rfl)) pgs_nil))))
  (ms_cons (ms_set 3 (me_lst true ma_nil) sc_read_plan.nd)
  (ms_cons (ms_for (t := (.tp [(.nm 4), (.nm 5)])) (passes_of rfl) rfl (mi_enum T.z_enumerate (ma_cons (me_v 1) ma_nil)) (pg_tup rfl (pgs_cons (pg_name (i := 4) sc_read_plan.nd rfl (by first | exact Or.inl rfl | exact Or.inr rfl)) (pgs_cons (pg_name (i := 5) sc_read_plan.nd rfl (by first | exact Or.inl rfl | exact Or.inr rfl)) pgs_nil))) (ms_cons (ms_set 6 (me_call X_step_in L_step_in (hr.mono (by decide)) T.g_step_in T.F_step_in.kp T.b_step_in (takes_of rfl rfl rfl rfl) (ma_cons (me_v 5) ma_nil)) sc_read_plan.nd)
  (ms_cons (ms_if (mt_cmp om_isN (me_v 6) me_non) (ms_one (X_line.ms_raise rfl T.x1_BadText hr (takes_of rfl rfl rfl rfl) (ma_cons (me_op (om_add false) (me_v 4) me_int) ma_nil))) ms_nil)
  (ms_one (ms_expr (me_append (me_v 3) (ma_cons (me_v 6) ma_nil)))))))
  (ms_cons (ms_if (mt_cmp (om_ne hr.units) (me_v 2) me_str) (ms_one (X_line.ms_raise rfl T.x1_BadText hr (takes_of rfl rfl rfl rfl) (ma_cons (me_op (om_add false) (me_callB cm_len T.z_len boot_len (ma_cons (me_v 1) ma_nil)) me_int) ma_nil))) ms_nil)
  (ms_cons (ms_expr (me_call X_check_steps L_check_steps (hr.mono (by decide)) T.g_check_steps T.F_check_steps.kp T.b_check_steps (takes_of rfl rfl rfl rfl) (ma_cons (me_callTy cm_tuple T.z_tuple boot_tuple (ma_cons (me_v 3) ma_nil)) ma_nil)))
  (ms_one (ms_ret (me_callTy cm_tuple T.z_tuple boot_tuple (ma_cons (me_v 3) ma_nil)))))))))
theorem ok__law_mixed (T : Top P K mg a) : FnM P w K mg base 1 a.f__law_mixed a.fd__law_mixed ["_law_cell", "_law_turn"] m__law_mixed :=
  FnM.of true T.F__law_mixed sc__law_mixed fun cdv A outer s H E hr =>
  (ms_cons (ms_set 2 (me_op om_mod (me_op (om_mul false) (me_op (om_add false) (me_op (om_add false) (me_op om_mod (me_callTy cm_int T.z_int boot_int (ma_cons (me_v 0) ma_nil)) me_int) (me_op (om_mul false) me_int (me_v 1))) me_int) me_int) me_int) sc__law_mixed.nd)
  (ms_cons (ms_set 2 (me_op om_mod (me_op (om_mul false) (me_v 2) (me_op (om_add false) (me_op om_div (me_v 2) me_int) me_int)) me_int) sc__law_mixed.nd)
  (ms_one (ms_ret (me_op om_div (me_op om_mod (me_op (om_mul false) (me_v 2) (me_op (om_add false) (me_op om_div (me_v 2) me_int) me_int)) me_int) me_int)))))
theorem ok__law_bag (T : Top P K mg a) : FnM P w K mg base 1 a.f__law_bag a.fd__law_bag ["_law_script"] m__law_bag :=
  FnM.of false T.F__law_bag sc__law_bag fun cdv A outer s H E hr =>
  (ms_one (ms_ret (me_lst true (ma_cons (me_lc (t := (.nm 1)) (g := gTg K (.nm 1)) false rfl sc__law_bag.nd (mi_seq (me_sl false (me_v 0) mp_none (mp_some me_int))) (blkOk_by (own := [("_law_cell", 1)]) rfl) (fun _ _ _ _ _ => (pg_name (i := 1) sc__law_bag.nd rfl (by first | exact Or.inl rfl | exact Or.inr rfl))) (fun _ _ _ _ _ => mts_nil) (fun _ _ _ _ _ => (me_callTy cm_int T.z_int boot_int (ma_cons (me_v 1) ma_nil)))) (ma_cons me_int (ma_cons me_int (ma_cons me_int ma_nil)))))))
theorem ok__law_draw (T : Top P K mg a) (X__law_mixed : FnM P w K mg base 1 a.f__law_mixed a.fd__law_mixed ["_law_cell", "_law_turn"] m__law_mixed) : FnM P w K mg base 2 a.f__law_draw a.fd__law_draw ["_law_bag_here", "_law_many"] m__law_draw :=
  have L__law_mixed : ∀ qs h, m__law_mixed qs h ≠ .bad → qs.length = 2 := fun _ _ e => mDef_len e; FnM.of true T.F__law_draw sc__law_draw fun cdv A outer s H E hr =>
  (ms_cons (ms_seti (me_op (om_add false) (me_ix (me_v 0) me_int) me_int) (me_v 0) me_int)
  (ms_cons (ms_if (mt_cmp om_gt (me_ix (me_v 0) me_int) me_int) (ms_cons (ms_set 2 (me_op om_mod (me_callTy cm_int T.z_int boot_int (ma_cons (me_ix (me_v 0) me_int) ma_nil)) (me_v 1)) sc__law_draw.nd)
  (ms_cons (ms_seti (me_op om_div (me_ix (me_v 0) me_int) (me_v 1)) (me_v 0) me_int)
  (ms_one (ms_ret (me_v 2))))) ms_nil)
  (ms_cons (ms_set 3 (me_ix (me_v 0) me_int) sc__law_draw.nd)
  (ms_cons (ms_if (mt_cmp (om_eq hr.units) (me_callB cm_len T.z_len boot_len (ma_cons (me_v 3) ma_nil)) me_int) (ms_one (ms_ret (me_op om_mod (me_call X__law_mixed L__law_mixed (hr.mono (by decide)) T.g__law_mixed T.F__law_mixed.kp T.b__law_mixed (takes_of rfl rfl rfl rfl) (ma_cons me_int (ma_cons (me_ix (me_v 0) me_int) ma_nil))) (me_v 1)))) ms_nil)
  (ms_cons (ms_set 4 (me_ix (me_v 0) me_int) sc__law_draw.nd)
  (ms_cons (ms_seti (me_op (om_add false) (me_v 4) me_int) (me_v 0) me_int)
  (ms_cons (ms_set 5 (me_ix (me_v 3) (me_op om_mod (me_callTy cm_int T.z_int boot_int (ma_cons (me_v 4) ma_nil)) (me_callB cm_len T.z_len boot_len (ma_cons (me_v 3) ma_nil)))) sc__law_draw.nd)
  (ms_cons (ms_if (mt_w (mw_and (mt_cmp om_lt (me_v 4) (me_callB cm_len T.z_len boot_len (ma_cons (me_v 3) ma_nil))) (mw_and1 (mt_cmp om_ge (me_callB cm_abs T.z_abs boot_abs (ma_cons (me_v 5) ma_nil)) (me_op om_pow me_int me_int))))) (ms_cons (ms_seti (me_op om_div (me_callB cm_abs T.z_abs boot_abs (ma_cons (me_v 5) ma_nil)) (me_v 1)) (me_v 0) me_int)
  (ms_one (ms_ret (me_op om_mod (me_callTy cm_int T.z_int boot_int (ma_cons (me_callB cm_abs T.z_abs boot_abs (ma_cons (me_v 5) ma_nil)) ma_nil)) (me_v 1))))) ms_nil)
  (ms_one (ms_ret (me_op om_mod (me_call X__law_mixed L__law_mixed (hr.mono (by decide)) T.g__law_mixed T.F__law_mixed.kp T.b__law_mixed (takes_of rfl rfl rfl rfl) (ma_cons (me_v 5) (ma_cons (me_ix (me_v 0) me_int) ma_nil))) (me_v 1))))))))))))
theorem ok__law_drawn (T : Top P K mg a) (X__law_draw : FnM P w K mg base 2 a.f__law_draw a.fd__law_draw ["_law_bag_here", "_law_many"] m__law_draw) : FnM P w K mg base 3 a.f__law_drawn a.fd__law_drawn ["_law_bag_here"] m__law_drawn :=
  have L__law_draw : ∀ qs h, m__law_draw qs h ≠ .bad → qs.length = 2 := fun _ _ e => mDef_len e; FnM.of true T.F__law_drawn sc__law_drawn fun cdv A outer s H E hr =>
  (ms_cons (ms_set 1 (me_ix (me_lst false (ma_cons me_int (ma_cons me_int (ma_cons me_int (ma_cons me_int ma_nil))))) (me_call X__law_draw L__law_draw (hr.mono (by decide)) T.g__law_draw T.F__law_draw.kp T.b__law_draw (takes_of rfl rfl rfl rfl) (ma_cons (me_v 0) (ma_cons me_int ma_nil)))) sc__law_drawn.nd)
  (ms_cons (ms_set 2 (me_lst true ma_nil) sc__law_drawn.nd)
  (ms_cons (ms_for (t := (.nm 3)) (passes_of rfl) rfl (mi_range1 T.z_range (ma_cons (me_call X__law_draw L__law_draw (hr.mono (by decide)) T.g__law_draw T.F__law_draw.kp T.b__law_draw (takes_of rfl rfl rfl rfl) (ma_cons (me_v 0) (ma_cons (me_ix (me_lst false (ma_cons me_int (ma_cons me_int ma_nil))) (me_call X__law_draw L__law_draw (hr.mono (by decide)) T.g__law_draw T.F__law_draw.kp T.b__law_draw (takes_of rfl rfl rfl rfl) (ma_cons (me_v 0) (ma_cons me_int ma_nil)))) ma_nil))) ma_nil)) (pg_name (i := 3) sc__law_drawn.nd rfl (by first | exact Or.inl rfl | exact Or.inr rfl)) (ms_one (ms_expr (me_append (me_v 2) (ma_cons (me_tup (ma_cons (me_ix (me_lst false (ma_cons me_str (ma_cons me_str ma_nil))) (me_call X__law_draw L__law_draw (hr.mono (by decide)) T.g__law_draw T.F__law_draw.kp T.b__law_draw (takes_of rfl rfl rfl rfl) (ma_cons (me_v 0) (ma_cons me_int ma_nil)))) (ma_cons (me_call X__law_draw L__law_draw (hr.mono (by decide)) T.g__law_draw T.F__law_draw.kp T.b__law_draw (takes_of rfl rfl rfl rfl) (ma_cons (me_v 0) (ma_cons (me_v 1) ma_nil))) ma_nil))) ma_nil)))))
  (ms_cons (ms_if (mt_w (mw_and (mt_cmp (om_eq hr.units) (me_call X__law_draw L__law_draw (hr.mono (by decide)) T.g__law_draw T.F__law_draw.kp T.b__law_draw (takes_of rfl rfl rfl rfl) (ma_cons (me_v 0) (ma_cons me_int ma_nil))) me_int) (mw_and1 (mt_cmp om_gt (me_callB cm_len T.z_len boot_len (ma_cons (me_v 2) ma_nil)) me_int)))) (ms_one (ms_set 2 (me_sl true (me_op (om_mul false) (me_v 2) me_int) mp_none (mp_some (me_op (om_add false) me_int (me_call X__law_draw L__law_draw (hr.mono (by decide)) T.g__law_draw T.F__law_draw.kp T.b__law_draw (takes_of rfl rfl rfl rfl) (ma_cons (me_v 0) (ma_cons me_int ma_nil)))))) sc__law_drawn.nd)) ms_nil)
  (ms_one (ms_ret (me_callTy cm_tuple T.z_tuple boot_tuple (ma_cons (me_v 2) ma_nil))))))))
theorem ok__law_is_plan (T : Top P K mg a) : FnM P w K mg base 1 a.f__law_is_plan a.fd__law_is_plan ["_law_thing"] m__law_is_plan :=
  FnM.of true T.F__law_is_plan sc__law_is_plan fun cdv A outer s H E hr =>
  (ms_cons (ms_if (mt_w (mw_or (mt_not (mt_val (me_callB cm_isi T.z_isinstance boot_isinstance (ma_cons (me_v 0) (ma_cons (me_ty T.z_tuple) ma_nil))))) (mw_or1 (mt_cmp om_gt (me_callB cm_len T.z_len boot_len (ma_cons (me_v 0) ma_nil)) me_int)))) (ms_one (ms_ret me_bl)) ms_nil)
  (ms_cons (ms_for (t := (.nm 1)) (passes_of rfl) rfl (mi_seq (me_v 0)) (pg_name (i := 1) sc__law_is_plan.nd rfl (by first | exact Or.inl rfl | exact Or.inr rfl)) (ms_cons (ms_if (mt_w (mw_or (mt_not (mt_val (me_callB cm_isi T.z_isinstance boot_isinstance (ma_cons (me_v 1) (ma_cons (me_ty T.z_tuple) ma_nil))))) (mw_or (mt_cmp (om_ne hr.units) (me_callB cm_len T.z_len boot_len (ma_cons (me_v 1) ma_nil)) me_int) (mw_or1 (mt_not (mt_val (me_callB cm_isi T.z_isinstance boot_isinstance (ma_cons (me_ix (me_v 1) me_int) (ma_cons (me_ty T.z_str) ma_nil))))))))) (ms_one (ms_ret me_bl)) ms_nil)
  (ms_cons (ms_if (mt_w (mw_or (mt_not (mt_val (me_callB cm_isi T.z_isinstance boot_isinstance (ma_cons (me_ix (me_v 1) me_int) (ma_cons (me_ty T.z_int) ma_nil))))) (mw_or (mt_val (me_callB cm_isi T.z_isinstance boot_isinstance (ma_cons (me_ix (me_v 1) me_int) (ma_cons (me_ty T.z_bool) ma_nil)))) (mw_or1 (mt_not (mt_chain om_le om_le me_int (me_ix (me_v 1) me_int) me_int)))))) (ms_one (ms_ret me_bl)) ms_nil)
  (ms_one (ms_if (mt_w (mw_and (mt_cmp (om_ne hr.units) (me_ix (me_v 1) me_int) me_str) (mw_and1 (mt_cmp (om_ne hr.units) (me_ix (me_v 1) me_int) me_str)))) (ms_one (ms_ret me_bl)) ms_nil)))))
  (ms_one (ms_ret me_bl))))
theorem ok__law_text (T : Top P K mg a) : FnM P w K mg base 1 a.f__law_text a.fd__law_text ["_law_plan"] m__law_text :=
  FnM.of true T.F__law_text sc__law_text fun cdv A outer s H E hr =>
  (ms_one (ms_ret (me_join me_str (ma_cons (me_lc (t := (.tp [(.nm 1), (.nm 2)])) (g := gTg K (.tp [(.nm 1), (.nm 2)])) false rfl sc__law_text.nd (mi_seq (me_v 0)) (blkOk_by (own := [("_law_word", 1), ("_law_piece", 2)]) rfl) (fun _ _ _ _ _ => (pg_tup rfl (pgs_cons (pg_name (i := 1) sc__law_text.nd rfl (by first | exact Or.inl rfl | exact Or.inr rfl)) (pgs_cons (pg_name (i := 2) sc__law_text.nd rfl (by first | exact Or.inl rfl | exact Or.inr rfl)) pgs_nil)))) (fun _ _ _ _ _ => mts_nil) (fun _ _ _ _ _ => (me_op (om_add false) (me_op (om_add false) (me_op (om_add false) (me_v 1) me_str) (me_callTy cm_str T.z_str boot_str (ma_cons (me_v 2) ma_nil))) me_str))) ma_nil))))
theorem ok__law_step (T : Top P K mg a) : FnM P w K mg base 1 a.f__law_step a.fd__law_step ["_law_line"] m__law_step :=
  FnM.of true T.F__law_step sc__law_step fun cdv A outer s H E hr =>
  (ms_cons (ms_set 1 (me_split false (me_v 0) (ma_cons me_str ma_nil)) sc__law_step.nd)
  (ms_cons (ms_if (mt_w (mw_or (mt_cmp (om_ne hr.units) (me_callB cm_len T.z_len boot_len (ma_cons (me_v 1) ma_nil)) me_int) (mw_or1 (mt_cmp om_notin (me_ix (me_v 1) me_int) (me_lst false (ma_cons me_str (ma_cons me_str ma_nil))))))) (ms_one (ms_ret me_non)) ms_nil)
  (ms_cons (ms_set 2 (me_ix (me_v 1) me_int) sc__law_step.nd)
  (ms_cons (ms_if (mt_w (mw_or (mt_not (mt_chain om_le om_le me_int (me_callB cm_len T.z_len boot_len (ma_cons (me_v 2) ma_nil)) me_int)) (mw_or1 (mt_not (mt_val (me_callB (cm_all rfl) T.z_all boot_all (ma_cons (me_lc (t := (.nm 3)) (g := gTg K (.nm 3)) false rfl sc__law_step.nd (mi_seq (me_v 2)) (blkOk_by (own := [("_law_sign", 3)]) rfl) (fun _ _ _ _ _ => (pg_name (i := 3) sc__law_step.nd rfl (by first | exact Or.inl rfl | exact Or.inr rfl))) (fun _ _ _ _ _ => mts_nil) (fun _ _ _ _ _ => (me_cmp om_in (me_v 3) me_str))) ma_nil))))))) (ms_one (ms_ret me_non)) ms_nil)
  (ms_cons (ms_if (mt_w (mw_and (mt_cmp (om_eq hr.units) (me_ix (me_v 2) me_int) me_str) (mw_and1 (mt_cmp om_gt (me_callB cm_len T.z_len boot_len (ma_cons (me_v 2) ma_nil)) me_int)))) (ms_one (ms_ret me_non)) ms_nil)
  (ms_one (ms_ret (me_tup (ma_cons (me_ix (me_v 1) me_int) (ma_cons (me_callTy cm_int T.z_int boot_int (ma_cons (me_v 2) ma_nil)) ma_nil))))))))))
theorem ok__law_due (T : Top P K mg a) (X__law_is_plan : FnM P w K mg base 1 a.f__law_is_plan a.fd__law_is_plan ["_law_thing"] m__law_is_plan) (X__law_step : FnM P w K mg base 1 a.f__law_step a.fd__law_step ["_law_line"] m__law_step) : FnM P w K mg base 2 a.f__law_due a.fd__law_due ["_law_text_here"] m__law_due :=
  have L__law_is_plan : ∀ qs h, m__law_is_plan qs h ≠ .bad → qs.length = 1 := fun _ _ e => mDef_len e; have L__law_step : ∀ qs h, m__law_step qs h ≠ .bad → qs.length = 1 := fun _ _ e => mDef_len e; FnM.of true T.F__law_due sc__law_due fun cdv A outer s H E hr =>
  (ms_cons (ms_set 1 (me_split false (me_v 0) (ma_cons me_str ma_nil)) sc__law_due.nd)
  (ms_cons (ms_set 2 (me_lst true ma_nil) sc__law_due.nd)
  (ms_cons (ms_for (t := (.nm 3)) (passes_of rfl) rfl (mi_range1 T.z_range (ma_cons (me_op om_subI (me_callB cm_len T.z_len boot_len (ma_cons (me_v 1) ma_nil)) me_int) ma_nil)) (pg_name (i := 3) sc__law_due.nd rfl (by first | exact Or.inl rfl | exact Or.inr rfl)) (ms_cons (ms_set 4 (me_call X__law_step L__law_step (hr.mono (by decide)) T.g__law_step T.F__law_step.kp T.b__law_step (takes_of rfl rfl rfl rfl) (ma_cons (me_ix (me_v 1) (me_v 3)) ma_nil)) sc__law_due.nd)
  (ms_cons (ms_if (mt_cmp om_isN (me_v 4) me_non) (ms_one (ms_ret (me_tup (ma_cons me_str (ma_cons (me_op (om_add false) (me_v 3) me_int) ma_nil))))) ms_nil)
  (ms_one (ms_expr (me_append (me_v 2) (ma_cons (me_v 4) ma_nil)))))))
  (ms_cons (ms_if (mt_cmp (om_ne hr.units) (me_ix (me_v 1) (me_un um_neg me_int)) me_str) (ms_one (ms_ret (me_tup (ma_cons me_str (ma_cons (me_callB cm_len T.z_len boot_len (ma_cons (me_v 1) ma_nil)) ma_nil))))) ms_nil)
  (ms_cons (ms_if (mt_not (mt_val (me_call X__law_is_plan L__law_is_plan (hr.mono (by decide)) T.g__law_is_plan T.F__law_is_plan.kp T.b__law_is_plan (takes_of rfl rfl rfl rfl) (ma_cons (me_callTy cm_tuple T.z_tuple boot_tuple (ma_cons (me_v 2) ma_nil)) ma_nil)))) (ms_one (ms_ret (me_tup (ma_cons me_str ma_nil)))) ms_nil)
  (ms_one (ms_ret (me_tup (ma_cons me_str (ma_cons (me_callTy cm_tuple T.z_tuple boot_tuple (ma_cons (me_v 2) ma_nil)) ma_nil))))))))))
theorem me_told__law_told {X : Cx} {W : WX} {ad : Ads} (T : Top X.prog X.K X.mg ad) {c Pt : Addr} (hTB : LamX.TabB X.base X.mg c Pt) (hcode : X.env.code = .ref c) {k : Nat} (hr : Room (k + 2) X.A) {params : Arguments} {body : Expr} {scope : Scope} {p lpos pos : Pos} {mb : EM}
    (hbody : ∀ (A : Around) (outer : List Env) (s : Shared) (H : Hp) (E : XK) (f c' : Addr), Room k (A.deeper (LamX.lamEnv X scope s.heap.objs.size f c')) → PE (LamX.lamCx X A outer s H E scope f c') body (tmE (gr X) (fun c d _ H => E c d H) mb))
    (hg : Gl X "_law_told" := by rfl) (L : LamX.LamS X.env.scope scope := by exact LamX.lamS_by rfl) (hdef : defaultsOf params X.env = ([], []) := by rfl)
    (hbind : ∀ (q : Str) (cl : List (Str × Addr)) (pm cv ctv : Value), bindArgs (PySem.W.kla_fn "<lambda>" q params body scope cl pm cv ctv) ⟨[], []⟩ = pure [] := by intro _ _ _ _ _; rfl) :
    PE X (.Call (.Name "_law_told" p) [.Lambda params body scope lpos] [] pos) (tmE (gr X) W (mTold Pt (X.env.qual ++ "<lambda>") "read" zs__law_told 1 3 mb)) := by
  obtain ⟨oc, od, kV, doc, pm, an, cdv, ct, osl, e, lk, hcg⟩ := T.F__law_told.ex
  have hb := T.b__law_told
  rw [e] at lk hb
  have nd := sc__law_told.nd
  refine PE_imp (LamX.pe_lamcall (Ng := ["_law_call", "_law_found", "e"]) (a := "_law_call") hg T.g__law_told T.F__law_told.kp lk hcg hb sc__law_told rfl (by first | exact Or.inl rfl | exact Or.inr (Or.inl rfl))
    (told_gives (i := 0) nd rfl (Or.inl rfl) rfl (by decide) (by decide) (fun s H => ⟨_, (.cons (z := z0__law_told) ⟨rfl, by decide, .inl T.k_BadText⟩ rfl rfl rfl (all_exm (exm_c T.k_BadText T.em_BadText_BadText (exm_c T.k_BadPlan T.em_BadPlan_BadText exm_n))) (fun c ea oe C d ed fs pn hl hm hz hf hd => by
    have ec := only_true hl (x := "BadText") (by decide)
    subst ec
    cases T.k_BadText.symm.trans hm
    exact (ms_cons (ms_set 1 (me_tup (ma_cons me_str (ma_cons (me_errF (X := Zc0 X ["_law_call", "_law_found", "e"] "_law_told" (defScope s__law_told) ad.f__law_told cdv s H) T.xf_BadText T.xn_BadText_line hz hf hd (me_v 2)) ma_nil))) sc__law_told.nd)
  (ms_one (ms_if (mt_not (mt_val (me_errI (X := Zc0 X ["_law_call", "_law_found", "e"] "_law_told" (defScope s__law_told) ad.f__law_told cdv s H) T.ec_BadText T.z_isinstance T.k_KeepError T.ki_BadText_KeepError hz hf hd (me_v 2)))) (ms_one (ms_set 1 (me_tup (ma_cons me_str ma_nil)) sc__law_told.nd)) ms_nil)))) (.cons (z := z1__law_told) ⟨rfl, by decide, .inl T.k_BadPlan⟩ rfl rfl rfl (all_exm (exm_c T.k_BadPlan T.em_BadPlan_BadPlan exm_n)) (fun c ea oe C d ed fs pn hl hm hz hf hd => by
    have ec := only_true hl (x := "BadPlan") (by decide)
    subst ec
    cases T.k_BadPlan.symm.trans hm
    exact (ms_cons (ms_set 1 (me_tup (ma_cons me_str ma_nil)) sc__law_told.nd)
  (ms_one (ms_if (mt_not (mt_val (me_errI (X := Zc0 X ["_law_call", "_law_found", "e"] "_law_told" (defScope s__law_told) ad.f__law_told cdv s H) T.ec_BadPlan T.z_isinstance T.k_KeepError T.ki_BadPlan_KeepError hz hf hd (me_v 2)))) (ms_one (ms_set 1 (me_tup (ma_cons me_str ma_nil)) sc__law_told.nd)) ms_nil)))) .nil))⟩) (fun _ _ _ _ => rfl) (fun _ _ _ _ => rfl) (fun _ _ _ _ => rfl))
    hTB hcode List.mem_cons_self (fun p hp _ => by rw [List.mem_singleton.mp hp]) hr L hdef hbind hbody) fun _ _ _ h => told_ok h
theorem ok__law_is_same (T : Top P K mg a) : ∀ n : Nat, FnM P w K mg base (n + 1) a.f__law_is_same a.fd__law_is_same ["_law_told_here", "_law_due_here"] (m__law_is_same n)
  | 0 => FnM_bad
  | n + 1 => have X0 := ok__law_is_same T n; have L0 := len__law_is_same n; FnM.of true T.F__law_is_same sc__law_is_same fun cdv A outer s H E hr =>
  (ms_cons (ms_if (mt_val (me_callB cm_isi T.z_isinstance boot_isinstance (ma_cons (me_v 1) (ma_cons (me_ty T.z_tuple) ma_nil)))) (ms_cons (ms_if (mt_w (mw_or (mt_not (mt_val (me_callB cm_isi T.z_isinstance boot_isinstance (ma_cons (me_v 0) (ma_cons (me_ty T.z_tuple) ma_nil))))) (mw_or1 (mt_cmp (om_ne hr.units) (me_callB cm_len T.z_len boot_len (ma_cons (me_v 0) ma_nil)) (me_callB cm_len T.z_len boot_len (ma_cons (me_v 1) ma_nil)))))) (ms_one (ms_ret me_bl)) ms_nil)
  (ms_one (ms_ret (me_callB (cm_all rfl) T.z_all boot_all (ma_cons (me_lc (t := (.nm 2)) (g := gTg K (.nm 2)) false rfl sc__law_is_same.nd (mi_range1 T.z_range (ma_cons (me_callB cm_len T.z_len boot_len (ma_cons (me_v 1) ma_nil)) ma_nil)) (blkOk_by (own := [("_law_k", 2)]) rfl) (fun _ _ _ _ _ => (pg_name (i := 2) sc__law_is_same.nd rfl (by first | exact Or.inl rfl | exact Or.inr rfl))) (fun _ _ _ _ _ => mts_nil) (fun _ _ _ _ _ => (me_call X0 L0 hr T.g__law_is_same T.F__law_is_same.kp T.b__law_is_same LamX.takes0 (ma_cons (me_ix (me_v 0) (me_v 2)) (ma_cons (me_ix (me_v 1) (me_v 2)) ma_nil))))) ma_nil))))) ms_nil)
  (ms_one (ms_ret (me_and (me_cmp (om_eq hr.units) (me_callB cm_isi T.z_isinstance boot_isinstance (ma_cons (me_v 0) (ma_cons (me_ty T.z_bool) ma_nil))) (me_callB cm_isi T.z_isinstance boot_isinstance (ma_cons (me_v 1) (ma_cons (me_ty T.z_bool) ma_nil)))) (me_one (me_cmp (om_eq hr.units) (me_v 0) (me_v 1)))))))
theorem ok__law_odd (T : Top P K mg a) (X__law_draw : FnM P w K mg base 2 a.f__law_draw a.fd__law_draw ["_law_bag_here", "_law_many"] m__law_draw) : FnM P w K mg base 3 a.f__law_odd a.fd__law_odd ["_law_bag_here", "_law_plan"] m__law_odd :=
  have L__law_draw : ∀ qs h, m__law_draw qs h ≠ .bad → qs.length = 2 := fun _ _ e => mDef_len e; FnM.of true T.F__law_odd sc__law_odd fun cdv A outer s H E hr =>
  (ms_cons (ms_set 2 (me_lst false (ma_cons (me_tup (ma_cons me_str (ma_cons me_int ma_nil))) (ma_cons (me_tup (ma_cons me_str (ma_cons (me_un um_neg me_int) ma_nil))) (ma_cons (me_tup (ma_cons me_str (ma_cons me_bl ma_nil))) (ma_cons (me_tup (ma_cons me_str (ma_cons me_non ma_nil))) (ma_cons (me_tup (ma_cons me_str (ma_cons me_str ma_nil))) (ma_cons (me_lst false (ma_cons me_str (ma_cons me_int ma_nil))) (ma_cons (me_tup (ma_cons me_str ma_nil)) ma_nil)))))))) sc__law_odd.nd)
  (ms_cons (ms_set 2 (me_op (om_add false) (me_v 2) (me_lst false (ma_cons (me_tup (ma_cons me_str (ma_cons me_int ma_nil))) (ma_cons (me_tup (ma_cons me_str (ma_cons me_int ma_nil))) (ma_cons (me_tup (ma_cons me_int (ma_cons me_str ma_nil))) (ma_cons me_non (ma_cons me_int (ma_cons me_str (ma_cons (me_tup (ma_cons me_str (ma_cons me_int (ma_cons me_int ma_nil)))) ma_nil))))))))) sc__law_odd.nd)
  (ms_cons (ms_set 2 (me_op (om_add false) (me_v 2) (me_lst false (ma_cons (me_tup (ma_cons (me_tup ma_nil) (ma_cons me_int ma_nil))) (ma_cons (me_tup (ma_cons me_str (ma_cons me_int ma_nil))) ma_nil)))) sc__law_odd.nd)
  (ms_cons (ms_set 3 (me_call X__law_draw L__law_draw (hr.mono (by decide)) T.g__law_draw T.F__law_draw.kp T.b__law_draw (takes_of rfl rfl rfl rfl) (ma_cons (me_v 0) (ma_cons (me_op (om_add false) (me_callB cm_len T.z_len boot_len (ma_cons (me_v 1) ma_nil)) me_int) ma_nil))) sc__law_odd.nd)
  (ms_cons (ms_if (mt_cmp (om_eq hr.units) (me_call X__law_draw L__law_draw (hr.mono (by decide)) T.g__law_draw T.F__law_draw.kp T.b__law_draw (takes_of rfl rfl rfl rfl) (ma_cons (me_v 0) (ma_cons me_int ma_nil))) me_int) (ms_one (ms_ret (me_ix (me_lst false (ma_cons (me_callTy (cm_list false) T.z_list boot_list (ma_cons (me_v 1) ma_nil)) (ma_cons me_non (ma_cons me_str (ma_cons me_int (ma_cons me_dct0 (ma_cons (me_tup (ma_cons (me_v 1) (ma_cons (me_v 1) ma_nil))) ma_nil))))))) (me_call X__law_draw L__law_draw (hr.mono (by decide)) T.g__law_draw T.F__law_draw.kp T.b__law_draw (takes_of rfl rfl rfl rfl) (ma_cons (me_v 0) (ma_cons me_int ma_nil)))))) ms_nil)
  (ms_one (ms_ret (me_op (om_add false) (me_op (om_add false) (me_sl false (me_v 1) mp_none (mp_some (me_v 3))) (me_tup (ma_cons (me_ix (me_v 2) (me_call X__law_draw L__law_draw (hr.mono (by decide)) T.g__law_draw T.F__law_draw.kp T.b__law_draw (takes_of rfl rfl rfl rfl) (ma_cons (me_v 0) (ma_cons me_int ma_nil)))) ma_nil))) (me_sl false (me_v 1) (mp_some (me_op (om_add false) (me_v 3) me_int)) mp_none)))))))))
theorem ok__law_spoilt (T : Top P K mg a) (X__law_draw : FnM P w K mg base 2 a.f__law_draw a.fd__law_draw ["_law_bag_here", "_law_many"] m__law_draw) : FnM P w K mg base 3 a.f__law_spoilt a.fd__law_spoilt ["_law_bag_here", "_law_text_here"] m__law_spoilt :=
  have L__law_draw : ∀ qs h, m__law_draw qs h ≠ .bad → qs.length = 2 := fun _ _ e => mDef_len e; FnM.of true T.F__law_spoilt sc__law_spoilt fun cdv A outer s H E hr =>
  (ms_cons (ms_set 2 me_str sc__law_spoilt.nd)
  (ms_cons (ms_set 3 (me_ix (me_v 2) (me_call X__law_draw L__law_draw (hr.mono (by decide)) T.g__law_draw T.F__law_draw.kp T.b__law_draw (takes_of rfl rfl rfl rfl) (ma_cons (me_v 0) (ma_cons (me_callB cm_len T.z_len boot_len (ma_cons (me_v 2) ma_nil)) ma_nil)))) sc__law_spoilt.nd)
  (ms_cons (ms_set 4 (me_call X__law_draw L__law_draw (hr.mono (by decide)) T.g__law_draw T.F__law_draw.kp T.b__law_draw (takes_of rfl rfl rfl rfl) (ma_cons (me_v 0) (ma_cons (me_op (om_add false) (me_callB cm_len T.z_len boot_len (ma_cons (me_v 1) ma_nil)) me_int) ma_nil))) sc__law_spoilt.nd)
  (ms_cons (ms_set 5 (me_call X__law_draw L__law_draw (hr.mono (by decide)) T.g__law_draw T.F__law_draw.kp T.b__law_draw (takes_of rfl rfl rfl rfl) (ma_cons (me_v 0) (ma_cons me_int ma_nil))) sc__law_spoilt.nd)
  (ms_cons (ms_if (mt_cmp om_lt (me_v 5) me_int) (ms_one (ms_ret (me_op (om_add false) (me_op (om_add false) (me_sl false (me_v 1) mp_none (mp_some (me_v 4))) (me_v 3)) (me_sl false (me_v 1) (mp_some (me_v 4)) mp_none)))) ms_nil)
  (ms_cons (ms_if (mt_cmp om_lt (me_v 5) me_int) (ms_one (ms_ret (me_op (om_add false) (me_sl false (me_v 1) mp_none (mp_some (me_v 4))) (me_sl false (me_v 1) (mp_some (me_op (om_add false) (me_v 4) me_int)) mp_none)))) ms_nil)
  (ms_cons (ms_if (mt_cmp (om_eq hr.units) (me_v 5) me_int) (ms_one (ms_ret (me_op (om_add false) (me_op (om_add false) (me_sl false (me_v 1) mp_none (mp_some (me_v 4))) (me_v 3)) (me_sl false (me_v 1) (mp_some (me_op (om_add false) (me_v 4) me_int)) mp_none)))) ms_nil)
  (ms_cons (ms_set 6 (me_split false (me_v 1) (ma_cons me_str ma_nil)) sc__law_spoilt.nd)
  (ms_cons (ms_set 7 (me_call X__law_draw L__law_draw (hr.mono (by decide)) T.g__law_draw T.F__law_draw.kp T.b__law_draw (takes_of rfl rfl rfl rfl) (ma_cons (me_v 0) (ma_cons (me_callB cm_len T.z_len boot_len (ma_cons (me_v 6) ma_nil)) ma_nil))) sc__law_spoilt.nd)
  (ms_cons (ms_if (mt_cmp (om_eq hr.units) (me_v 5) me_int) (ms_one (ms_ret (me_join me_str (ma_cons (me_op (om_add false) (me_sl false (me_v 6) mp_none (mp_some (me_v 7))) (me_sl false (me_v 6) (mp_some (me_op (om_add false) (me_v 7) me_int)) mp_none)) ma_nil)))) ms_nil)
  (ms_cons (ms_set 8 (me_lst false (ma_cons me_str (ma_cons me_str (ma_cons me_str (ma_cons me_str (ma_cons me_str (ma_cons me_str (ma_cons me_str (ma_cons me_str ma_nil))))))))) sc__law_spoilt.nd)
  (ms_cons (ms_set 8 (me_op (om_add false) (me_v 8) (me_lst false (ma_cons me_str (ma_cons me_str ma_nil)))) sc__law_spoilt.nd)
  (ms_one (ms_ret (me_join me_str (ma_cons (me_op (om_add false) (me_op (om_add false) (me_sl false (me_v 6) mp_none (mp_some (me_v 7))) (me_lst false (ma_cons (me_ix (me_v 8) (me_call X__law_draw L__law_draw (hr.mono (by decide)) T.g__law_draw T.F__law_draw.kp T.b__law_draw (takes_of rfl rfl rfl rfl) (ma_cons (me_v 0) (ma_cons me_int ma_nil)))) ma_nil))) (me_sl false (me_v 6) (mp_some (me_v 7)) mp_none)) ma_nil))))))))))))))))
theorem ok__law_backwards (T : Top P K mg a) : FnM P w K mg base 1 a.f__law_backwards a.fd__law_backwards ["_law_text_here"] m__law_backwards :=
  FnM.of true T.F__law_backwards sc__law_backwards fun cdv A outer s H E hr =>
  (ms_cons (ms_set 1 (me_sl false (me_split false (me_v 0) (ma_cons me_str ma_nil)) mp_none (mp_some (me_un um_neg me_int))) sc__law_backwards.nd)
  (ms_cons (ms_set 2 (me_lst true ma_nil) sc__law_backwards.nd)
  (ms_cons (ms_for (t := (.nm 3)) (passes_of rfl) rfl (mi_seq (me_revL false (me_v 1))) (pg_name (i := 3) sc__law_backwards.nd rfl (by first | exact Or.inl rfl | exact Or.inr rfl)) (ms_cons (ms_unl (ts := [(.nm 4), (.nm 5)]) rfl (me_split false (me_v 3) (ma_cons me_str ma_nil)) (pgs_cons (pg_name (i := 4) sc__law_backwards.nd rfl (by first | exact Or.inl rfl | exact Or.inr rfl)) (pgs_cons (pg_name (i := 5) sc__law_backwards.nd rfl (by first | exact Or.inl rfl | exact Or.inr rfl)) pgs_nil)))
  (ms_one (ms_expr (me_append (me_v 2) (ma_cons (me_op (om_add false) (me_op (om_add false) (me_op (om_add false) (me_ix (me_lst false (ma_cons me_str (ma_cons me_str ma_nil))) (me_callTy cm_int T.z_int boot_int (ma_cons (me_cmp (om_eq hr.units) (me_v 4) me_str) ma_nil))) me_str) (me_v 5)) me_str) ma_nil))))))
  (ms_one (ms_ret (me_join me_str (ma_cons (me_v 2) ma_nil)))))))
theorem ok_law (T : Top P K mg a) (X_turned_back : FnM P w K mg base 4 a.f_turned_back a.fd_turned_back ["plan"] m_turned_back) (X_plan_text : FnM P w K mg base 5 a.f_plan_text a.fd_plan_text ["plan"] m_plan_text) (X_read_plan : FnM P w K mg base 5 a.f_read_plan a.fd_read_plan ["text"] m_read_plan) (X__law_bag : FnM P w K mg base 1 a.f__law_bag a.fd__law_bag ["_law_script"] m__law_bag) (X__law_draw : FnM P w K mg base 2 a.f__law_draw a.fd__law_draw ["_law_bag_here", "_law_many"] m__law_draw) (X__law_drawn : FnM P w K mg base 3 a.f__law_drawn a.fd__law_drawn ["_law_bag_here"] m__law_drawn) (X__law_is_plan : FnM P w K mg base 1 a.f__law_is_plan a.fd__law_is_plan ["_law_thing"] m__law_is_plan) (X__law_text : FnM P w K mg base 1 a.f__law_text a.fd__law_text ["_law_plan"] m__law_text) (X__law_due : FnM P w K mg base 2 a.f__law_due a.fd__law_due ["_law_text_here"] m__law_due) (X__law_is_same : FnM P w K mg base 6 a.f__law_is_same a.fd__law_is_same ["_law_told_here", "_law_due_here"] (m__law_is_same 5)) (X__law_odd : FnM P w K mg base 3 a.f__law_odd a.fd__law_odd ["_law_bag_here", "_law_plan"] m__law_odd) (X__law_spoilt : FnM P w K mg base 3 a.f__law_spoilt a.fd__law_spoilt ["_law_bag_here", "_law_text_here"] m__law_spoilt) (X__law_backwards : FnM P w K mg base 1 a.f__law_backwards a.fd__law_backwards ["_law_text_here"] m__law_backwards) {c P0 : Addr} {oc kV doc pm ct : Value} {od an : Option Addr} {osl : Array (Option Value)} {f : Addr}
    (lk : K.lookup f = some ⟨oc, od, .func (PySem.W.fnOf "law" "law" (defArgs s_law) (defBody s_law) (defScope s_law) .none kV doc pm an (.ref c) ct), osl⟩) (hcd : PySem.W.codeIn K (.ref c) "law" = true) (hTB : LamX.TabB base mg c P0) :
    FnM P w K mg base 9 f (PySem.W.fnOf "law" "law" (defArgs s_law) (defBody s_law) (defScope s_law) .none kV doc pm an (.ref c) ct) ["_law_script"] (m_law P0) :=
  have L_turned_back : ∀ qs h, m_turned_back qs h ≠ .bad → qs.length = 1 := fun _ _ e => mDef_len e; have L_plan_text : ∀ qs h, m_plan_text qs h ≠ .bad → qs.length = 1 := fun _ _ e => mDef_len e; have L_read_plan : ∀ qs h, m_read_plan qs h ≠ .bad → qs.length = 1 := fun _ _ e => mDef_len e; have L__law_bag : ∀ qs h, m__law_bag qs h ≠ .bad → qs.length = 1 := fun _ _ e => mDef_len e; have L__law_draw : ∀ qs h, m__law_draw qs h ≠ .bad → qs.length = 2 := fun _ _ e => mDef_len e; have L__law_drawn : ∀ qs h, m__law_drawn qs h ≠ .bad → qs.length = 1 := fun _ _ e => mDef_len e; have L__law_is_plan : ∀ qs h, m__law_is_plan qs h ≠ .bad → qs.length = 1 := fun _ _ e => mDef_len e; have L__law_text : ∀ qs h, m__law_text qs h ≠ .bad → qs.length = 1 := fun _ _ e => mDef_len e; have L__law_due : ∀ qs h, m__law_due qs h ≠ .bad → qs.length = 1 := fun _ _ e => mDef_len e; have L__law_is_same : ∀ qs h, (m__law_is_same 5) qs h ≠ .bad → qs.length = 2 := len__law_is_same _; have L__law_odd : ∀ qs h, m__law_odd qs h ≠ .bad → qs.length = 2 := fun _ _ e => mDef_len e; have L__law_spoilt : ∀ qs h, m__law_spoilt qs h ≠ .bad → qs.length = 2 := fun _ _ e => mDef_len e; have L__law_backwards : ∀ qs h, m__law_backwards qs h ≠ .bad → qs.length = 1 := fun _ _ e => mDef_len e; fn_of lk hcd sc_law (fun vs H Q E h => h.1) fun A outer s H vs Q E hr h => ⟨_, have hcode : (cxOf (L2.CX P w) P w K mg base ["_law_script", "_law_bag_here", "_law_text_here", "_law_k", "_law_due_here", "_law_j", "_law_told_here", "_law_plan", "_law_some", "_law_thing"] "law" (defScope s_law) f (.ref c) A outer s H E).env.code = .ref c := rfl;
  (ms_cons (ms_set 1 (me_call X__law_bag L__law_bag (hr.mono (by decide)) T.g__law_bag T.F__law_bag.kp T.b__law_bag (takes_of rfl rfl rfl rfl) (ma_cons (me_v 0) ma_nil)) sc_law.nd)
  (ms_cons (ms_set 7 (me_call X__law_drawn L__law_drawn (hr.mono (by decide)) T.g__law_drawn T.F__law_drawn.kp T.b__law_drawn (takes_of rfl rfl rfl rfl) (ma_cons (me_v 1) ma_nil)) sc_law.nd)
  (ms_cons (ms_if (mt_not (mt_val (me_call X__law_is_plan L__law_is_plan (hr.mono (by decide)) T.g__law_is_plan T.F__law_is_plan.kp T.b__law_is_plan (takes_of rfl rfl rfl rfl) (ma_cons (me_v 7) ma_nil)))) (ms_one (ms_if (mt_cmp (om_ne hr.units) (me_told__law_told T hTB hcode hr (fun A outer s H E f c' hr => (me_call X_plan_text L_plan_text (hr.mono (by decide)) T.g_plan_text T.F_plan_text.kp T.b_plan_text (takes_of rfl rfl rfl rfl) (ma_cons (me_v 7) ma_nil)))) (me_tup (ma_cons me_str ma_nil))) (ms_one (ms_ret me_bl)) ms_nil)) (ms_cons (ms_set 2 (me_call X__law_text L__law_text (hr.mono (by decide)) T.g__law_text T.F__law_text.kp T.b__law_text (takes_of rfl rfl rfl rfl) (ma_cons (me_v 7) ma_nil)) sc_law.nd)
  (ms_cons (ms_if (mt_w (mw_or (mt_cmp (om_ne hr.units) (me_call X_plan_text L_plan_text (hr.mono (by decide)) T.g_plan_text T.F_plan_text.kp T.b_plan_text (takes_of rfl rfl rfl rfl) (ma_cons (me_v 7) ma_nil)) (me_v 2)) (mw_or1 (mt_not (mt_val (me_call X__law_is_same L__law_is_same (hr.mono (by decide)) T.g__law_is_same T.F__law_is_same.kp T.b__law_is_same (takes_of rfl rfl rfl rfl) (ma_cons (me_call X_read_plan L_read_plan (hr.mono (by decide)) T.g_read_plan T.F_read_plan.kp T.b_read_plan (takes_of rfl rfl rfl rfl) (ma_cons (me_v 2) ma_nil)) (ma_cons (me_v 7) ma_nil)))))))) (ms_one (ms_ret me_bl)) ms_nil)
  (ms_one (ms_if (mt_cmp (om_ne hr.units) (me_call X_plan_text L_plan_text (hr.mono (by decide)) T.g_plan_text T.F_plan_text.kp T.b_plan_text (takes_of rfl rfl rfl rfl) (ma_cons (me_call X_turned_back L_turned_back (hr.mono (by decide)) T.g_turned_back T.F_turned_back.kp T.b_turned_back (takes_of rfl rfl rfl rfl) (ma_cons (me_v 7) ma_nil)) ma_nil)) (me_call X__law_backwards L__law_backwards (hr.mono (by decide)) T.g__law_backwards T.F__law_backwards.kp T.b__law_backwards (takes_of rfl rfl rfl rfl) (ma_cons (me_v 2) ma_nil))) (ms_one (ms_ret me_bl)) ms_nil)))))
  (ms_cons (ms_for (t := (.nm 3)) (passes_of rfl) rfl (mi_range1 T.z_range (ma_cons me_int ma_nil)) (pg_name (i := 3) sc_law.nd rfl (by first | exact Or.inl rfl | exact Or.inr rfl)) (ms_cons (ms_set 9 (me_call X__law_odd L__law_odd (hr.mono (by decide)) T.g__law_odd T.F__law_odd.kp T.b__law_odd (takes_of rfl rfl rfl rfl) (ma_cons (me_v 1) (ma_cons (me_v 7) ma_nil))) sc_law.nd)
  (ms_cons (ms_set 4 (me_tup (ma_cons me_str ma_nil)) sc_law.nd)
  (ms_cons (ms_if (mt_val (me_call X__law_is_plan L__law_is_plan (hr.mono (by decide)) T.g__law_is_plan T.F__law_is_plan.kp T.b__law_is_plan (takes_of rfl rfl rfl rfl) (ma_cons (me_v 9) ma_nil))) (ms_one (ms_set 4 (me_tup (ma_cons me_str (ma_cons (me_call X__law_text L__law_text (hr.mono (by decide)) T.g__law_text T.F__law_text.kp T.b__law_text (takes_of rfl rfl rfl rfl) (ma_cons (me_v 9) ma_nil)) ma_nil))) sc_law.nd)) ms_nil)
  (ms_one (ms_if (mt_not (mt_val (me_call X__law_is_same L__law_is_same (hr.mono (by decide)) T.g__law_is_same T.F__law_is_same.kp T.b__law_is_same (takes_of rfl rfl rfl rfl) (ma_cons (me_told__law_told T hTB hcode hr (fun A outer s H E f c' hr => (me_call X_plan_text L_plan_text (hr.mono (by decide)) T.g_plan_text T.F_plan_text.kp T.b_plan_text (takes_of rfl rfl rfl rfl) (ma_cons (me_v 9) ma_nil)))) (ma_cons (me_v 4) ma_nil))))) (ms_one (ms_ret me_bl)) ms_nil))))))
  (ms_cons (ms_for (t := (.nm 3)) (passes_of rfl) rfl (mi_range1 T.z_range (ma_cons me_int ma_nil)) (pg_name (i := 3) sc_law.nd rfl (by first | exact Or.inl rfl | exact Or.inr rfl)) (ms_cons (ms_set 8 (me_call X__law_text L__law_text (hr.mono (by decide)) T.g__law_text T.F__law_text.kp T.b__law_text (takes_of rfl rfl rfl rfl) (ma_cons (me_sl false (me_v 7) mp_none (mp_some me_int)) ma_nil)) sc_law.nd)
  (ms_cons (ms_if (mt_cmp (om_eq hr.units) (me_v 3) me_int) (ms_one (ms_set 8 (me_call X__law_text L__law_text (hr.mono (by decide)) T.g__law_text T.F__law_text.kp T.b__law_text (takes_of rfl rfl rfl rfl) (ma_cons (me_v 7) ma_nil)) sc_law.nd)) ms_nil)
  (ms_cons (ms_for (t := (.nm 5)) (passes_of rfl) rfl (mi_range1 T.z_range (ma_cons (me_call X__law_draw L__law_draw (hr.mono (by decide)) T.g__law_draw T.F__law_draw.kp T.b__law_draw (takes_of rfl rfl rfl rfl) (ma_cons (me_v 1) (ma_cons me_int ma_nil))) ma_nil)) (pg_name (i := 5) sc_law.nd rfl (by first | exact Or.inl rfl | exact Or.inr rfl)) (ms_one (ms_set 8 (me_call X__law_spoilt L__law_spoilt (hr.mono (by decide)) T.g__law_spoilt T.F__law_spoilt.kp T.b__law_spoilt (takes_of rfl rfl rfl rfl) (ma_cons (me_v 1) (ma_cons (me_v 8) ma_nil))) sc_law.nd)))
  (ms_cons (ms_set 4 (me_call X__law_due L__law_due (hr.mono (by decide)) T.g__law_due T.F__law_due.kp T.b__law_due (takes_of rfl rfl rfl rfl) (ma_cons (me_v 8) ma_nil)) sc_law.nd)
  (ms_cons (ms_set 6 (me_told__law_told T hTB hcode hr (fun A outer s H E f c' hr => (me_call X_read_plan L_read_plan (hr.mono (by decide)) T.g_read_plan T.F_read_plan.kp T.b_read_plan (takes_of rfl rfl rfl rfl) (ma_cons (me_v 8) ma_nil)))) sc_law.nd)
  (ms_one (ms_if (mt_w (mw_or (mt_not (mt_val (me_call X__law_is_same L__law_is_same (hr.mono (by decide)) T.g__law_is_same T.F__law_is_same.kp T.b__law_is_same (takes_of rfl rfl rfl rfl) (ma_cons (me_v 6) (ma_cons (me_v 4) ma_nil))))) (mw_or1 (mt_w (mw_and (mt_cmp (om_eq hr.units) (me_ix (me_v 4) me_int) me_str) (mw_and1 (mt_cmp (om_ne hr.units) (me_call X_plan_text L_plan_text (hr.mono (by decide)) T.g_plan_text T.F_plan_text.kp T.b_plan_text (takes_of rfl rfl rfl rfl) (ma_cons (me_ix (me_v 6) me_int) ma_nil)) (me_v 8)))))))) (ms_one (ms_ret me_bl)) ms_nil))))))))
  (ms_cons (ms_for (t := (.nm 9)) (passes_of rfl) rfl (mi_seq (me_lst false (ma_cons me_non (ma_cons me_int (ma_cons (me_tup ma_nil) (ma_cons (me_lst false (ma_cons me_str ma_nil)) (ma_cons me_bl ma_nil))))))) (pg_name (i := 9) sc_law.nd rfl (by first | exact Or.inl rfl | exact Or.inr rfl)) (ms_one (ms_if (mt_not (mt_val (me_call X__law_is_same L__law_is_same (hr.mono (by decide)) T.g__law_is_same T.F__law_is_same.kp T.b__law_is_same (takes_of rfl rfl rfl rfl) (ma_cons (me_told__law_told T hTB hcode hr (fun A outer s H E f c' hr => (me_call X_read_plan L_read_plan (hr.mono (by decide)) T.g_read_plan T.F_read_plan.kp T.b_read_plan (takes_of rfl rfl rfl rfl) (ma_cons (me_v 9) ma_nil)))) (ma_cons (me_tup (ma_cons me_str (ma_cons me_int ma_nil))) ma_nil))))) (ms_one (ms_ret me_bl)) ms_nil)))
  (ms_one (ms_ret (me_and (me_call X__law_is_same L__law_is_same (hr.mono (by decide)) T.g__law_is_same T.F__law_is_same.kp T.b__law_is_same (takes_of rfl rfl rfl rfl) (ma_cons (me_call X_read_plan L_read_plan (hr.mono (by decide)) T.g_read_plan T.F_read_plan.kp T.b_read_plan (takes_of rfl rfl rfl rfl) (ma_cons me_str ma_nil)) (ma_cons (me_tup ma_nil) ma_nil))) (me_one (me_cmp (om_eq hr.units) (me_call X_plan_text L_plan_text (hr.mono (by decide)) T.g_plan_text T.F_plan_text.kp T.b_plan_text (takes_of rfl rfl rfl rfl) (ma_cons (me_tup ma_nil) ma_nil)) me_str))))))))))), def_ok (frz := true) h⟩
end
end Ev
namespace Ev
open PySem PySem.Spec PyProof.Rows L2
theorem ok_all {P : Program} {w : World} {K : PySem.W.Frag} {mg : Str → Option Value} {base : Heap} {a : Ads} (T : Top P K mg a) {c P0 : Addr} {oc kV doc pm ct : Value} {od an : Option Addr} {osl : Array (Option Value)} {f : Addr}
    (lk : K.lookup f = some ⟨oc, od, .func (PySem.W.fnOf "law" "law" (defArgs s_law) (defBody s_law) (defScope s_law) .none kV doc pm an (.ref c) ct), osl⟩) (hcd : PySem.W.codeIn K (.ref c) "law" = true) (hTB : LamX.TabB base mg c P0) :
    FnM P w K mg base 9 f (PySem.W.fnOf "law" "law" (defArgs s_law) (defBody s_law) (defScope s_law) .none kV doc pm an (.ref c) ct) ["_law_script"] (m_law P0) :=
  have X_is_integer := ok_is_integer (w := w) (base := base) T
  have X_is_within := ok_is_within (w := w) (base := base) T X_is_integer
  have X_is_pair := ok_is_pair (w := w) (base := base) T
  have X_is_step := ok_is_step (w := w) (base := base) T X_is_within X_is_pair
  have X_backwards := ok_backwards (w := w) (base := base) T
  have X_turned_back := ok_turned_back (w := w) (base := base) T X_is_step X_backwards
  have X_number_in := ok_number_in (w := w) (base := base) T
  have X_lines_in := ok_lines_in (w := w) (base := base) T
  have X_check_steps := ok_check_steps (w := w) (base := base) T X_is_step
  have X_plan_text := ok_plan_text (w := w) (base := base) T X_check_steps
  have X_step_in := ok_step_in (w := w) (base := base) T X_number_in
  have X_read_plan := ok_read_plan (w := w) (base := base) T X_lines_in X_check_steps X_step_in
  have X__law_mixed := ok__law_mixed (w := w) (base := base) T
  have X__law_bag := ok__law_bag (w := w) (base := base) T
  have X__law_draw := ok__law_draw (w := w) (base := base) T X__law_mixed
  have X__law_drawn := ok__law_drawn (w := w) (base := base) T X__law_draw
  have X__law_is_plan := ok__law_is_plan (w := w) (base := base) T
  have X__law_text := ok__law_text (w := w) (base := base) T
  have X__law_step := ok__law_step (w := w) (base := base) T
  have X__law_due := ok__law_due (w := w) (base := base) T X__law_is_plan X__law_step
  have X__law_is_same := ok__law_is_same (w := w) (base := base) T 5
  have X__law_odd := ok__law_odd (w := w) (base := base) T X__law_draw
  have X__law_spoilt := ok__law_spoilt (w := w) (base := base) T X__law_draw
  have X__law_backwards := ok__law_backwards (w := w) (base := base) T
  ok_law T X_turned_back X_plan_text X_read_plan X__law_bag X__law_draw X__law_drawn X__law_is_plan X__law_text X__law_due X__law_is_same X__law_odd X__law_spoilt X__law_backwards lk hcd hTB
structure ClsF (P : Program) (K : PySem.W.Frag) (mg : Str → Option Value) (C_KeepError C_BadPlan C_BadText fI_BadText : Addr) (q_BadText : PySem.FldX_line.Ps) : Prop where
  k_KeepError : mg "KeepError" = some (.ref C_KeepError)
  k_BadPlan : mg "BadPlan" = some (.ref C_BadPlan)
  k_BadText : mg "BadText" = some (.ref C_BadText)
  x0_BadPlan : Ex0 K mg "BadPlan" C_BadPlan
  x1_BadText : PySem.FldX_line.Txt q_BadText P K mg "BadText" C_BadText fI_BadText
  ec_BadText : ExcC K C_BadText
  ki_BadText_KeepError : PySem.W.kitOne K (.ref C_BadText) (.ref C_KeepError) = some true
  xf_BadText : XfC K C_BadText
  xn_BadText_line : PySem.W.findIn K (.ref C_BadText) "line" = some none
  ec_BadPlan : ExcC K C_BadPlan
  ki_BadPlan_KeepError : PySem.W.kitOne K (.ref C_BadPlan) (.ref C_KeepError) = some true
  em_BadText_BadText : PySem.W.exmOne K (.ref C_BadText) (.ref C_BadText) = some true
  em_BadPlan_BadText : PySem.W.exmOne K (.ref C_BadPlan) (.ref C_BadText) = some false
  em_BadPlan_BadPlan : PySem.W.exmOne K (.ref C_BadPlan) (.ref C_BadPlan) = some true
theorem cls_all {P : Program} {K : PySem.W.Frag} {mg : Str → Option Value} {h : Heap} {C_KeepError C_BadPlan C_BadText fI_BadText : Addr} {q_BadText : PySem.FldX_line.Ps} {nm_BadText qn_BadText : Str} {N_BadText : Addr} {bs_BadText bm_BadText : List Value} {sn_BadText : List Str} {sub_BadText : List Value} {ab_BadText : Bool} {col_BadText : Option Bool} {dd_BadText : Option Addr} {k0_BadText k1_BadText k2_BadText k3_BadText k5_BadText : Option Value} {oc_BadText : Value} {od_BadText : Option Addr} {doc_BadText pm_BadText : Value} {an_BadText : Option Addr} {cda_BadText cc_BadText : Addr} {ct_BadText : Value} {osl_BadText : Array (Option Value)} {p1_BadText p2_BadText : Pos} {cl_BadText ccl_BadText : Value} {cld_BadText cdd_BadText : Option Addr} {csl_BadText ccs_BadText : Array (Option Value)} {vs_BadText : Array Value} {file_BadText qi_BadText : Str} {tf_BadText : Tok} (X : K.In h) (G : h.Ns mainGlobals mg)
    (a_KeepError : PySem.W.nsIn K mainGlobals "KeepError" = some (some (.ref C_KeepError)))
    (a_BadPlan : PySem.W.nsIn K mainGlobals "BadPlan" = some (some (.ref C_BadPlan)))
    (a_BadText : PySem.W.nsIn K mainGlobals "BadText" = some (some (.ref C_BadText)))
    (i_BadPlan : PySem.W.isClsIn K C_BadPlan = true)
    (t_BadPlan : PySem.W.typeIn K (.ref C_BadPlan) = some (.type "type"))
    (b_BadPlan : PySem.W.subIn K (.ref C_BadPlan) (.type "BaseException") = some true)
    (q_BadPlan : PySem.W.excIn K C_BadPlan [.type "ValueError", .type "Exception", .type "BaseException", .type "object"] "ValueError.__new__" = true)
    (kp_BadPlan : PySem.W.keepIn K (.ref C_BadPlan) = true)
    (i_BadText : PySem.W.isClsIn K C_BadText = true)
    (t_BadText : PySem.W.typeIn K (.ref C_BadText) = some (.type "type"))
    (b_BadText : PySem.W.subIn K (.ref C_BadText) (.type "BaseException") = some true)
    (x1BadText_hev : PySem.FldX_line.MethEv q_BadText)
    (x1BadText_gs : PySem.W.nsIn K mainGlobals "super" = some none)
    (x1BadText_cls1 : K.lookup C_BadText = some (PySem.excClassObj nm_BadText qn_BadText C_BadText N_BadText bs_BadText bm_BadText true sn_BadText sub_BadText ab_BadText col_BadText dd_BadText k0_BadText k1_BadText k2_BadText k3_BadText k5_BadText "ValueError.__new__"))
    (x1BadText_cls2 : PySem.HandSPX.refsVE bm_BadText = true)
    (x1BadText_sa : PySem.W.findIn K (.ref C_BadText) "__setattr__" = some (some (.builtin "object.__setattr__")))
    (x1BadText_ga : PySem.W.findIn K (.ref C_BadText) "__getattribute__" = some (some (.builtin "BaseException.__getattribute__")))
    (x1BadText_gg : PySem.W.findIn K (.ref C_BadText) "__getattr__" = some none)
    (x1BadText_noN : PySem.W.findIn K (.ref C_BadText) "line" = some none)
    (x1BadText_iC : PySem.W.findIn K (.ref C_BadText) "__init__" = some (some (.ref fI_BadText)))
    (x1BadText_tC : PySem.W.typeIn K (.ref fI_BadText) = some (.type "function"))
    (x1BadText_kC : PySem.W.keepIn K (.ref C_BadText) = true)
    (x1BadText_hdC : PySem.W.hasDictIn K C_BadText = true)
    (x1BadText_hB : PySem.W.subIn K (.ref C_BadText) (.type "ValueError") = some true)
    (x1BadText_hm : PySem.W.ks_superIn K C_BadText C_BadText "__init__" = some (some (.builtin "ValueError.__init__")))
    (x1BadText_hs : PySem.W.mroIn K C_BadText (.ref C_BadText) = some true)
    (x1BadText_ho : PySem.W.nsIn K PySem.cStatics "thirdparty.any" = some none)
    (x1BadText_fn1 : K.lookup fI_BadText = some ⟨oc_BadText, od_BadText, .func (PySem.W.ksFn "__init__" qi_BadText (PySem.FldX_line.iA p1_BadText p2_BadText) (PySem.FldX_line.iB q_BadText) PySem.FldX_line.iS .none .none doc_BadText pm_BadText an_BadText (.ref cda_BadText) ct_BadText cc_BadText), osl_BadText⟩)
    (x1BadText_fn2 : PySem.W.codeIn K (.ref cda_BadText) qi_BadText = true)
    (x1BadText_fn3 : K.lookup cc_BadText = some ⟨cl_BadText, cld_BadText, .cell (some (.ref C_BadText)), csl_BadText⟩)
    (x1BadText_fn4 : K.lookup cda_BadText = some ⟨ccl_BadText, cdd_BadText, .fields vs_BadText, ccs_BadText⟩)
    (x1BadText_fn5 : vs_BadText[2]? = some (.str file_BadText tf_BadText))
    (x1BadText_fn6 : ((P.main.file : Str) == file_BadText) = true)
    (x1BadText_top : (P.main.scope.names.lookup ("super" : Str)).isSome = false)
    (ec0_BadText : PySem.W.findIn K (.ref C_BadText) "__getattribute__" = some (some (.builtin "BaseException.__getattribute__")))
    (ec1_BadText : PySem.W.findIn K (.ref C_BadText) "__getattr__" = some none)
    (ec2_BadText : PySem.W.subIn K (.ref C_BadText) (.type "BaseException") = some true)
    (ec3_BadText : PySem.W.hasDictIn K C_BadText = true)
    (ec4_BadText : PySem.W.findIn K (.ref C_BadText) "__class__" = some (some (.builtin "object.__class__")))
    (ec5_BadText : PySem.W.specialIn K (.builtin "object.__class__") "__get__" = some (some (.builtin "getset_descriptor.__get__")))
    (ec6_BadText : PySem.W.takesIn K (.builtin "object.__class__") = some true)
    (ec7_BadText : PySem.W.mroIn K C_BadText (.type "object") = some true)
    (i_KeepError : PySem.W.isClsIn K C_KeepError = true)
    (t_KeepError : PySem.W.typeIn K (.ref C_KeepError) = some (.type "type"))
    (b_KeepError : PySem.W.subIn K (.ref C_KeepError) (.type "BaseException") = some true)
    (s_BadText_KeepError : PySem.W.subIn K (.ref C_BadText) (.ref C_KeepError) = some true)
    (ec0_BadPlan : PySem.W.findIn K (.ref C_BadPlan) "__getattribute__" = some (some (.builtin "BaseException.__getattribute__")))
    (ec1_BadPlan : PySem.W.findIn K (.ref C_BadPlan) "__getattr__" = some none)
    (ec2_BadPlan : PySem.W.subIn K (.ref C_BadPlan) (.type "BaseException") = some true)
    (ec3_BadPlan : PySem.W.hasDictIn K C_BadPlan = true)
    (ec4_BadPlan : PySem.W.findIn K (.ref C_BadPlan) "__class__" = some (some (.builtin "object.__class__")))
    (ec5_BadPlan : PySem.W.specialIn K (.builtin "object.__class__") "__get__" = some (some (.builtin "getset_descriptor.__get__")))
    (ec6_BadPlan : PySem.W.takesIn K (.builtin "object.__class__") = some true)
    (ec7_BadPlan : PySem.W.mroIn K C_BadPlan (.type "object") = some true)
    (s_BadPlan_KeepError : PySem.W.subIn K (.ref C_BadPlan) (.ref C_KeepError) = some true)
    (s_BadText_BadText : PySem.W.subIn K (.ref C_BadText) (.ref C_BadText) = some true)
    (s_BadPlan_BadText : PySem.W.subIn K (.ref C_BadPlan) (.ref C_BadText) = some false)
    (s_BadPlan_BadPlan : PySem.W.subIn K (.ref C_BadPlan) (.ref C_BadPlan) = some true) : ∃ (C_KeepError C_BadPlan C_BadText fI_BadText : Addr) (q_BadText : PySem.FldX_line.Ps), ClsF P K mg C_KeepError C_BadPlan C_BadText fI_BadText q_BadText :=
  ⟨C_KeepError, C_BadPlan, C_BadText, fI_BadText, q_BadText, { k_KeepError := PySem.W.mg_of X G a_KeepError, k_BadPlan := PySem.W.mg_of X G a_BadPlan, k_BadText := PySem.W.mg_of X G a_BadText, x0_BadPlan := ⟨PySem.W.mg_of X G a_BadPlan, q_BadPlan, kp_BadPlan, b_BadPlan, t_BadPlan⟩, x1_BadText := { hev := x1BadText_hev, gC := PySem.W.mg_of X G a_BadText, gs := PySem.W.mg_none_of X G x1BadText_gs, exC := b_BadText, tyC := t_BadText, htop := x1BadText_top, cls := ⟨_, _, _, _, _, _, _, _, _, _, _, _, _, _, _, x1BadText_cls1, x1BadText_cls2⟩, sa := x1BadText_sa, ga := x1BadText_ga, gg := x1BadText_gg, noN := x1BadText_noN, iC := x1BadText_iC, tC := x1BadText_tC, kC := x1BadText_kC, hdC := x1BadText_hdC, hB := x1BadText_hB, hm := x1BadText_hm, hs := x1BadText_hs, ho := x1BadText_ho, fn := ⟨_, _, _, _, _, _, _, _, _, _, _, _, _, _, _, _, _, _, _, _, _, x1BadText_fn1, x1BadText_fn2, x1BadText_fn3, x1BadText_fn4, x1BadText_fn5, x1BadText_fn6⟩ }, ec_BadText := ⟨ec0_BadText, ec1_BadText, ec2_BadText, ec3_BadText, ec4_BadText, ec5_BadText, ec6_BadText, ec7_BadText⟩, ki_BadText_KeepError := kit_mk i_KeepError t_KeepError s_BadText_KeepError, xf_BadText := ⟨ec0_BadText, ec1_BadText, ec2_BadText, ec3_BadText⟩, xn_BadText_line := x1BadText_noN, ec_BadPlan := ⟨ec0_BadPlan, ec1_BadPlan, ec2_BadPlan, ec3_BadPlan, ec4_BadPlan, ec5_BadPlan, ec6_BadPlan, ec7_BadPlan⟩, ki_BadPlan_KeepError := kit_mk i_KeepError t_KeepError s_BadPlan_KeepError, em_BadText_BadText := exm_mk b_BadText i_BadText t_BadText s_BadText_BadText, em_BadPlan_BadText := exm_mk b_BadText i_BadText t_BadText s_BadPlan_BadText, em_BadPlan_BadPlan := exm_mk b_BadPlan i_BadPlan t_BadPlan s_BadPlan_BadPlan }⟩
end Ev
open PySem PySem.W PyProof.Rows
set_option maxHeartbeats 0 in
theorem PySem.Challenge.cw_lightfirst_k74_whole_plans_as_texts_holds : PySem.Challenge.rw_lightfirst_k74_whole_plans_as_texts.Holds := by
  w_on; o_law; k_head; (case hw => w_witness2)
  k_fill
  refine LamX.walk_ofOwn (l := PySem.Challenge.rw_lightfirst_k74_whole_plans_as_texts) (n := 63) (k := 9) (x := "_law_script") (CX := fun w => L2.CX PySem.Challenge.rw_lightfirst_k74_whole_plans_as_texts.prog w) rfl (by decide) rfl ⟨rfl, by decide, by decide⟩ (by decide) (fun w h Y => PySem.W.km_in_of Y) ?F (fun _ _ _ _ _ h => by obtain ⟨_, _, _, _, _, _, _, _, _, _, _, _, z⟩ := h; exact z)
  case F =>
    intro w mg fa h Y KX G hmg own
    clear Y
    replace hmg : mg "law" = some (.ref fa) := hmg
    obtain ⟨c, P, oc, kV, doc, pm, ct, od, an, osl, lk, hcd, hkp, hP, nP, C⟩ := Ev.law_mk (x := "law") (st := Ev.s_law) KX G hmg own (by k_is) (by k_is) (by k_is) (by rfl) (by rfl) (by rfl) (by rfl) (by rfl) (by decide) (by first | rfl | kernel_rfl) (by k_is) (by k_is)
    obtain ⟨f_is_integer, fd_is_integer, F_is_integer, b_is_integer, g_is_integer⟩ := (by
      refine' Ev.def_mk (x := "is_integer") (st := Ev.s_is_integer) (ps := ["thing"]) KX G (fun _ _ _ _ _ _ us hl => match us, hl with | [_], _ => rfl) ?a ?l ?c ?k
      (case a => k_is); (case l => k_is); (case c => k_is); (case k => k_is) : ∃ f fd, L2.Fun _ "is_integer" "is_integer" Ev.s_is_integer f fd ∧ L2.Binds _ fd ["thing"] [] ∧ mg "is_integer" = some (.ref f))
    obtain ⟨f_is_within, fd_is_within, F_is_within, b_is_within, g_is_within⟩ := (by
      refine' Ev.def_mk (x := "is_within") (st := Ev.s_is_within) (ps := ["thing", "least", "most"]) KX G (fun _ _ _ _ _ _ us hl => match us, hl with | [_, _, _], _ => rfl) ?a ?l ?c ?k
      (case a => k_is); (case l => k_is); (case c => k_is); (case k => k_is) : ∃ f fd, L2.Fun _ "is_within" "is_within" Ev.s_is_within f fd ∧ L2.Binds _ fd ["thing", "least", "most"] [] ∧ mg "is_within" = some (.ref f))
    obtain ⟨f_is_pair, fd_is_pair, F_is_pair, b_is_pair, g_is_pair⟩ := (by
      refine' Ev.def_mk (x := "is_pair") (st := Ev.s_is_pair) (ps := ["thing"]) KX G (fun _ _ _ _ _ _ us hl => match us, hl with | [_], _ => rfl) ?a ?l ?c ?k
      (case a => k_is); (case l => k_is); (case c => k_is); (case k => k_is) : ∃ f fd, L2.Fun _ "is_pair" "is_pair" Ev.s_is_pair f fd ∧ L2.Binds _ fd ["thing"] [] ∧ mg "is_pair" = some (.ref f))
    obtain ⟨f_is_step, fd_is_step, F_is_step, b_is_step, g_is_step⟩ := (by
      refine' Ev.def_mk (x := "is_step") (st := Ev.s_is_step) (ps := ["thing", "pieces"]) KX G (fun _ _ _ _ _ _ us hl => match us, hl with | [_, _], _ => rfl) ?a ?l ?c ?k
      (case a => k_is); (case l => k_is); (case c => k_is); (case k => k_is) : ∃ f fd, L2.Fun _ "is_step" "is_step" Ev.s_is_step f fd ∧ L2.Binds _ fd ["thing", "pieces"] [] ∧ mg "is_step" = some (.ref f))
    obtain ⟨f_backwards, fd_backwards, F_backwards, b_backwards, g_backwards⟩ := (by
      refine' Ev.def_mk (x := "backwards") (st := Ev.s_backwards) (ps := ["plan"]) KX G (fun _ _ _ _ _ _ us hl => match us, hl with | [_], _ => rfl) ?a ?l ?c ?k
      (case a => k_is); (case l => k_is); (case c => k_is); (case k => k_is) : ∃ f fd, L2.Fun _ "backwards" "backwards" Ev.s_backwards f fd ∧ L2.Binds _ fd ["plan"] [] ∧ mg "backwards" = some (.ref f))
    obtain ⟨f_turned_back, fd_turned_back, F_turned_back, b_turned_back, g_turned_back⟩ := (by
      refine' Ev.def_mk (x := "turned_back") (st := Ev.s_turned_back) (ps := ["plan"]) KX G (fun _ _ _ _ _ _ us hl => match us, hl with | [_], _ => rfl) ?a ?l ?c ?k
      (case a => k_is); (case l => k_is); (case c => k_is); (case k => k_is) : ∃ f fd, L2.Fun _ "turned_back" "turned_back" Ev.s_turned_back f fd ∧ L2.Binds _ fd ["plan"] [] ∧ mg "turned_back" = some (.ref f))
    obtain ⟨f_number_in, fd_number_in, F_number_in, b_number_in, g_number_in⟩ := (by
      refine' Ev.def_mk (x := "number_in") (st := Ev.s_number_in) (ps := ["word"]) KX G (fun _ _ _ _ _ _ us hl => match us, hl with | [_], _ => rfl) ?a ?l ?c ?k
      (case a => k_is); (case l => k_is); (case c => k_is); (case k => k_is) : ∃ f fd, L2.Fun _ "number_in" "number_in" Ev.s_number_in f fd ∧ L2.Binds _ fd ["word"] [] ∧ mg "number_in" = some (.ref f))
    obtain ⟨f_lines_in, fd_lines_in, F_lines_in, b_lines_in, g_lines_in⟩ := (by
      refine' Ev.def_mk (x := "lines_in") (st := Ev.s_lines_in) (ps := ["text"]) KX G (fun _ _ _ _ _ _ us hl => match us, hl with | [_], _ => rfl) ?a ?l ?c ?k
      (case a => k_is); (case l => k_is); (case c => k_is); (case k => k_is) : ∃ f fd, L2.Fun _ "lines_in" "lines_in" Ev.s_lines_in f fd ∧ L2.Binds _ fd ["text"] [] ∧ mg "lines_in" = some (.ref f))
    obtain ⟨f_check_steps, fd_check_steps, F_check_steps, b_check_steps, g_check_steps⟩ := (by
      refine' Ev.def_mk (x := "check_steps") (st := Ev.s_check_steps) (ps := ["plan"]) KX G (fun _ _ _ _ _ _ us hl => match us, hl with | [_], _ => rfl) ?a ?l ?c ?k
      (case a => k_is); (case l => k_is); (case c => k_is); (case k => k_is) : ∃ f fd, L2.Fun _ "check_steps" "check_steps" Ev.s_check_steps f fd ∧ L2.Binds _ fd ["plan"] [] ∧ mg "check_steps" = some (.ref f))
    obtain ⟨f_plan_text, fd_plan_text, F_plan_text, b_plan_text, g_plan_text⟩ := (by
      refine' Ev.def_mk (x := "plan_text") (st := Ev.s_plan_text) (ps := ["plan"]) KX G (fun _ _ _ _ _ _ us hl => match us, hl with | [_], _ => rfl) ?a ?l ?c ?k
      (case a => k_is); (case l => k_is); (case c => k_is); (case k => k_is) : ∃ f fd, L2.Fun _ "plan_text" "plan_text" Ev.s_plan_text f fd ∧ L2.Binds _ fd ["plan"] [] ∧ mg "plan_text" = some (.ref f))
    obtain ⟨f_step_in, fd_step_in, F_step_in, b_step_in, g_step_in⟩ := (by
      refine' Ev.def_mk (x := "step_in") (st := Ev.s_step_in) (ps := ["line"]) KX G (fun _ _ _ _ _ _ us hl => match us, hl with | [_], _ => rfl) ?a ?l ?c ?k
      (case a => k_is); (case l => k_is); (case c => k_is); (case k => k_is) : ∃ f fd, L2.Fun _ "step_in" "step_in" Ev.s_step_in f fd ∧ L2.Binds _ fd ["line"] [] ∧ mg "step_in" = some (.ref f))
    obtain ⟨f_read_plan, fd_read_plan, F_read_plan, b_read_plan, g_read_plan⟩ := (by
      refine' Ev.def_mk (x := "read_plan") (st := Ev.s_read_plan) (ps := ["text"]) KX G (fun _ _ _ _ _ _ us hl => match us, hl with | [_], _ => rfl) ?a ?l ?c ?k
      (case a => k_is); (case l => k_is); (case c => k_is); (case k => k_is) : ∃ f fd, L2.Fun _ "read_plan" "read_plan" Ev.s_read_plan f fd ∧ L2.Binds _ fd ["text"] [] ∧ mg "read_plan" = some (.ref f))
    obtain ⟨f__law_mixed, fd__law_mixed, F__law_mixed, b__law_mixed, g__law_mixed⟩ := (by
      refine' Ev.def_mk (x := "_law_mixed") (st := Ev.s__law_mixed) (ps := ["_law_cell", "_law_turn"]) KX G (fun _ _ _ _ _ _ us hl => match us, hl with | [_, _], _ => rfl) ?a ?l ?c ?k
      (case a => k_is); (case l => k_is); (case c => k_is); (case k => k_is) : ∃ f fd, L2.Fun _ "_law_mixed" "_law_mixed" Ev.s__law_mixed f fd ∧ L2.Binds _ fd ["_law_cell", "_law_turn"] [] ∧ mg "_law_mixed" = some (.ref f))
    obtain ⟨f__law_bag, fd__law_bag, F__law_bag, b__law_bag, g__law_bag⟩ := (by
      refine' Ev.def_mk (x := "_law_bag") (st := Ev.s__law_bag) (ps := ["_law_script"]) KX G (fun _ _ _ _ _ _ us hl => match us, hl with | [_], _ => rfl) ?a ?l ?c ?k
      (case a => k_is); (case l => k_is); (case c => k_is); (case k => k_is) : ∃ f fd, L2.Fun _ "_law_bag" "_law_bag" Ev.s__law_bag f fd ∧ L2.Binds _ fd ["_law_script"] [] ∧ mg "_law_bag" = some (.ref f))
    obtain ⟨f__law_draw, fd__law_draw, F__law_draw, b__law_draw, g__law_draw⟩ := (by
      refine' Ev.def_mk (x := "_law_draw") (st := Ev.s__law_draw) (ps := ["_law_bag_here", "_law_many"]) KX G (fun _ _ _ _ _ _ us hl => match us, hl with | [_, _], _ => rfl) ?a ?l ?c ?k
      (case a => k_is); (case l => k_is); (case c => k_is); (case k => k_is) : ∃ f fd, L2.Fun _ "_law_draw" "_law_draw" Ev.s__law_draw f fd ∧ L2.Binds _ fd ["_law_bag_here", "_law_many"] [] ∧ mg "_law_draw" = some (.ref f))
    obtain ⟨f__law_drawn, fd__law_drawn, F__law_drawn, b__law_drawn, g__law_drawn⟩ := (by
      refine' Ev.def_mk (x := "_law_drawn") (st := Ev.s__law_drawn) (ps := ["_law_bag_here"]) KX G (fun _ _ _ _ _ _ us hl => match us, hl with | [_], _ => rfl) ?a ?l ?c ?k
      (case a => k_is); (case l => k_is); (case c => k_is); (case k => k_is) : ∃ f fd, L2.Fun _ "_law_drawn" "_law_drawn" Ev.s__law_drawn f fd ∧ L2.Binds _ fd ["_law_bag_here"] [] ∧ mg "_law_drawn" = some (.ref f))
    obtain ⟨f__law_is_plan, fd__law_is_plan, F__law_is_plan, b__law_is_plan, g__law_is_plan⟩ := (by
      refine' Ev.def_mk (x := "_law_is_plan") (st := Ev.s__law_is_plan) (ps := ["_law_thing"]) KX G (fun _ _ _ _ _ _ us hl => match us, hl with | [_], _ => rfl) ?a ?l ?c ?k
      (case a => k_is); (case l => k_is); (case c => k_is); (case k => k_is) : ∃ f fd, L2.Fun _ "_law_is_plan" "_law_is_plan" Ev.s__law_is_plan f fd ∧ L2.Binds _ fd ["_law_thing"] [] ∧ mg "_law_is_plan" = some (.ref f))
    obtain ⟨f__law_text, fd__law_text, F__law_text, b__law_text, g__law_text⟩ := (by
      refine' Ev.def_mk (x := "_law_text") (st := Ev.s__law_text) (ps := ["_law_plan"]) KX G (fun _ _ _ _ _ _ us hl => match us, hl with | [_], _ => rfl) ?a ?l ?c ?k
      (case a => k_is); (case l => k_is); (case c => k_is); (case k => k_is) : ∃ f fd, L2.Fun _ "_law_text" "_law_text" Ev.s__law_text f fd ∧ L2.Binds _ fd ["_law_plan"] [] ∧ mg "_law_text" = some (.ref f))
    obtain ⟨f__law_step, fd__law_step, F__law_step, b__law_step, g__law_step⟩ := (by
      refine' Ev.def_mk (x := "_law_step") (st := Ev.s__law_step) (ps := ["_law_line"]) KX G (fun _ _ _ _ _ _ us hl => match us, hl with | [_], _ => rfl) ?a ?l ?c ?k
      (case a => k_is); (case l => k_is); (case c => k_is); (case k => k_is) : ∃ f fd, L2.Fun _ "_law_step" "_law_step" Ev.s__law_step f fd ∧ L2.Binds _ fd ["_law_line"] [] ∧ mg "_law_step" = some (.ref f))
    obtain ⟨f__law_due, fd__law_due, F__law_due, b__law_due, g__law_due⟩ := (by
      refine' Ev.def_mk (x := "_law_due") (st := Ev.s__law_due) (ps := ["_law_text_here"]) KX G (fun _ _ _ _ _ _ us hl => match us, hl with | [_], _ => rfl) ?a ?l ?c ?k
      (case a => k_is); (case l => k_is); (case c => k_is); (case k => k_is) : ∃ f fd, L2.Fun _ "_law_due" "_law_due" Ev.s__law_due f fd ∧ L2.Binds _ fd ["_law_text_here"] [] ∧ mg "_law_due" = some (.ref f))
    obtain ⟨f__law_told, fd__law_told, F__law_told, b__law_told, g__law_told⟩ := (by
      refine' Ev.def_mk (x := "_law_told") (st := Ev.s__law_told) (ps := ["_law_call"]) KX G (fun _ _ _ _ _ _ us hl => match us, hl with | [_], _ => rfl) ?a ?l ?c ?k
      (case a => k_is); (case l => k_is); (case c => k_is); (case k => k_is) : ∃ f fd, L2.Fun _ "_law_told" "_law_told" Ev.s__law_told f fd ∧ L2.Binds _ fd ["_law_call"] [] ∧ mg "_law_told" = some (.ref f))
    obtain ⟨f__law_is_same, fd__law_is_same, F__law_is_same, b__law_is_same, g__law_is_same⟩ := (by
      refine' Ev.def_mk (x := "_law_is_same") (st := Ev.s__law_is_same) (ps := ["_law_told_here", "_law_due_here"]) KX G (fun _ _ _ _ _ _ us hl => match us, hl with | [_, _], _ => rfl) ?a ?l ?c ?k
      (case a => k_is); (case l => k_is); (case c => k_is); (case k => k_is) : ∃ f fd, L2.Fun _ "_law_is_same" "_law_is_same" Ev.s__law_is_same f fd ∧ L2.Binds _ fd ["_law_told_here", "_law_due_here"] [] ∧ mg "_law_is_same" = some (.ref f))
    obtain ⟨f__law_odd, fd__law_odd, F__law_odd, b__law_odd, g__law_odd⟩ := (by
      refine' Ev.def_mk (x := "_law_odd") (st := Ev.s__law_odd) (ps := ["_law_bag_here", "_law_plan"]) KX G (fun _ _ _ _ _ _ us hl => match us, hl with | [_, _], _ => rfl) ?a ?l ?c ?k
      (case a => k_is); (case l => k_is); (case c => k_is); (case k => k_is) : ∃ f fd, L2.Fun _ "_law_odd" "_law_odd" Ev.s__law_odd f fd ∧ L2.Binds _ fd ["_law_bag_here", "_law_plan"] [] ∧ mg "_law_odd" = some (.ref f))
    obtain ⟨f__law_spoilt, fd__law_spoilt, F__law_spoilt, b__law_spoilt, g__law_spoilt⟩ := (by
      refine' Ev.def_mk (x := "_law_spoilt") (st := Ev.s__law_spoilt) (ps := ["_law_bag_here", "_law_text_here"]) KX G (fun _ _ _ _ _ _ us hl => match us, hl with | [_, _], _ => rfl) ?a ?l ?c ?k
      (case a => k_is); (case l => k_is); (case c => k_is); (case k => k_is) : ∃ f fd, L2.Fun _ "_law_spoilt" "_law_spoilt" Ev.s__law_spoilt f fd ∧ L2.Binds _ fd ["_law_bag_here", "_law_text_here"] [] ∧ mg "_law_spoilt" = some (.ref f))
    obtain ⟨f__law_backwards, fd__law_backwards, F__law_backwards, b__law_backwards, g__law_backwards⟩ := (by
      refine' Ev.def_mk (x := "_law_backwards") (st := Ev.s__law_backwards) (ps := ["_law_text_here"]) KX G (fun _ _ _ _ _ _ us hl => match us, hl with | [_], _ => rfl) ?a ?l ?c ?k
      (case a => k_is); (case l => k_is); (case c => k_is); (case k => k_is) : ∃ f fd, L2.Fun _ "_law_backwards" "_law_backwards" Ev.s__law_backwards f fd ∧ L2.Binds _ fd ["_law_text_here"] [] ∧ mg "_law_backwards" = some (.ref f))
    obtain ⟨C_KeepError, C_BadPlan, C_BadText, fI_BadText, q_BadText, CF⟩ := (by
      refine' Ev.cls_all (q_BadText := ⟨_, _, _, _, _, _, _, _, _, _⟩) KX G ?a_KeepError ?a_BadPlan ?a_BadText ?i_BadPlan ?t_BadPlan ?b_BadPlan ?q_BadPlan ?kp_BadPlan ?i_BadText ?t_BadText ?b_BadText ?x1BadText_hev ?x1BadText_gs ?x1BadText_cls1 ?x1BadText_cls2 ?x1BadText_sa ?x1BadText_ga ?x1BadText_gg ?x1BadText_noN ?x1BadText_iC ?x1BadText_tC ?x1BadText_kC ?x1BadText_hdC ?x1BadText_hB ?x1BadText_hm ?x1BadText_hs ?x1BadText_ho ?x1BadText_fn1 ?x1BadText_fn2 ?x1BadText_fn3 ?x1BadText_fn4 ?x1BadText_fn5 ?x1BadText_fn6 ?x1BadText_top ?ec0_BadText ?ec1_BadText ?ec2_BadText ?ec3_BadText ?ec4_BadText ?ec5_BadText ?ec6_BadText ?ec7_BadText ?i_KeepError ?t_KeepError ?b_KeepError ?s_BadText_KeepError ?ec0_BadPlan ?ec1_BadPlan ?ec2_BadPlan ?ec3_BadPlan ?ec4_BadPlan ?ec5_BadPlan ?ec6_BadPlan ?ec7_BadPlan ?s_BadPlan_KeepError ?s_BadText_BadText ?s_BadPlan_BadText ?s_BadPlan_BadPlan
      (case a_KeepError => k_is)
      (case a_BadPlan => k_is)
      (case a_BadText => k_is)
      (case i_BadPlan => first | rfl | k_is)
      (case t_BadPlan => k_is)
      (case b_BadPlan => k_is)
      (case q_BadPlan => k_exc)
      (case kp_BadPlan => k_is)
      (case i_BadText => first | rfl | k_is)
      (case t_BadText => k_is)
      (case b_BadText => k_is)
      (case x1BadText_gs => k_is)
      (case x1BadText_cls1 => k_is)
      (case x1BadText_cls2 => rfl)
      (case x1BadText_sa => k_is)
      (case x1BadText_ga => k_is)
      (case x1BadText_gg => k_is)
      (case x1BadText_noN => k_is)
      (case x1BadText_iC => k_is)
      (case x1BadText_tC => k_is)
      (case x1BadText_kC => k_is)
      (case x1BadText_hdC => k_is)
      (case x1BadText_hB => k_is)
      (case x1BadText_hm => first | rfl | kernel_rfl | decide +kernel)
      (case x1BadText_hs => first | rfl | k_is)
      (case x1BadText_ho => k_is)
      (case x1BadText_fn1 => rfl)
      (case x1BadText_fn2 => k_is)
      (case x1BadText_fn3 => k_is)
      (case x1BadText_fn4 => k_is)
      (case x1BadText_fn5 => rfl)
      (case x1BadText_fn6 => rfl)
      (case x1BadText_top => first | rfl | decide)
      (case ec0_BadText => k_is)
      (case ec1_BadText => k_is)
      (case ec2_BadText => k_is)
      (case ec3_BadText => k_is)
      (case ec4_BadText => k_is)
      (case ec5_BadText => k_is)
      (case ec6_BadText => k_is)
      (case ec7_BadText => k_is)
      (case i_KeepError => first | rfl | k_is)
      (case t_KeepError => k_is)
      (case b_KeepError => k_is)
      (case s_BadText_KeepError => first | rfl | k_is)
      (case ec0_BadPlan => k_is)
      (case ec1_BadPlan => k_is)
      (case ec2_BadPlan => k_is)
      (case ec3_BadPlan => k_is)
      (case ec4_BadPlan => k_is)
      (case ec5_BadPlan => k_is)
      (case ec6_BadPlan => k_is)
      (case ec7_BadPlan => k_is)
      (case s_BadPlan_KeepError => first | rfl | k_is)
      (case s_BadText_BadText => first | rfl | k_is)
      (case s_BadPlan_BadText => first | rfl | k_is)
      (case s_BadPlan_BadPlan => first | rfl | k_is)
      (case x1BadText_hev => exact ⟨_, fun _ => rfl⟩) : ∃ (C_KeepError C_BadPlan C_BadText fI_BadText : Addr) (q_BadText : PySem.FldX_line.Ps), Ev.ClsF PySem.Challenge.rw_lightfirst_k74_whole_plans_as_texts.prog _ mg C_KeepError C_BadPlan C_BadText fI_BadText q_BadText)
    have z_abs : mg "abs" = none := PySem.W.mg_none_of KX G (by k_is)
    have z_all : mg "all" = none := PySem.W.mg_none_of KX G (by k_is)
    have z_bool : mg "bool" = none := PySem.W.mg_none_of KX G (by k_is)
    have z_enumerate : mg "enumerate" = none := PySem.W.mg_none_of KX G (by k_is)
    have z_int : mg "int" = none := PySem.W.mg_none_of KX G (by k_is)
    have z_isinstance : mg "isinstance" = none := PySem.W.mg_none_of KX G (by k_is)
    have z_len : mg "len" = none := PySem.W.mg_none_of KX G (by k_is)
    have z_list : mg "list" = none := PySem.W.mg_none_of KX G (by k_is)
    have z_range : mg "range" = none := PySem.W.mg_none_of KX G (by k_is)
    have z_str : mg "str" = none := PySem.W.mg_none_of KX G (by k_is)
    have z_tuple : mg "tuple" = none := PySem.W.mg_none_of KX G (by k_is)
    have c_DROP : ∃ t, mg "DROP" = some (.str "drop" t) := by
      refine' Ev.kstr_mk KX G ?a
      (case a => k_is)
    have c_FIGURES : ∃ t, mg "FIGURES" = some (.str "0123456789" t) := by
      refine' Ev.kstr_mk KX G ?a
      (case a => k_is)
    have c_MOST_FIGURES : ∃ t, mg "MOST_FIGURES" = some (.int 9 t) := by
      refine' Ev.kint_mk KX G ?a
      (case a => k_is)
    have c_MOST_PIECE : ∃ t, mg "MOST_PIECE" = some (.int 39 t) := by
      refine' Ev.kint_mk KX G ?a
      (case a => k_is)
    have c_MOST_STEPS : ∃ t, mg "MOST_STEPS" = some (.int 2000 t) := by
      refine' Ev.kint_mk KX G ?a
      (case a => k_is)
    have c_WRITE : ∃ t, mg "WRITE" = some (.str "write" t) := by
      refine' Ev.kstr_mk KX G ?a
      (case a => k_is)
    have F_law := L2.fun_mk (st := Ev.s_law) lk hcd hkp
    have b_law := F_law.binds (ps := ["_law_script"]) fun _ _ _ _ _ _ us hl => match us, hl with | [_], _ => rfl
    have T : Ev.Top PySem.Challenge.rw_lightfirst_k74_whole_plans_as_texts.prog _ mg { f_is_integer := f_is_integer, fd_is_integer := fd_is_integer, f_is_within := f_is_within, fd_is_within := fd_is_within, f_is_pair := f_is_pair, fd_is_pair := fd_is_pair, f_is_step := f_is_step, fd_is_step := fd_is_step, f_backwards := f_backwards, fd_backwards := fd_backwards, f_turned_back := f_turned_back, fd_turned_back := fd_turned_back, f_number_in := f_number_in, fd_number_in := fd_number_in, f_lines_in := f_lines_in, fd_lines_in := fd_lines_in, f_check_steps := f_check_steps, fd_check_steps := fd_check_steps, f_plan_text := f_plan_text, fd_plan_text := fd_plan_text, f_step_in := f_step_in, fd_step_in := fd_step_in, f_read_plan := f_read_plan, fd_read_plan := fd_read_plan, f__law_mixed := f__law_mixed, fd__law_mixed := fd__law_mixed, f__law_bag := f__law_bag, fd__law_bag := fd__law_bag, f__law_draw := f__law_draw, fd__law_draw := fd__law_draw, f__law_drawn := f__law_drawn, fd__law_drawn := fd__law_drawn, f__law_is_plan := f__law_is_plan, fd__law_is_plan := fd__law_is_plan, f__law_text := f__law_text, fd__law_text := fd__law_text, f__law_step := f__law_step, fd__law_step := fd__law_step, f__law_due := f__law_due, fd__law_due := fd__law_due, f__law_told := f__law_told, fd__law_told := fd__law_told, f__law_is_same := f__law_is_same, fd__law_is_same := fd__law_is_same, f__law_odd := f__law_odd, fd__law_odd := fd__law_odd, f__law_spoilt := f__law_spoilt, fd__law_spoilt := fd__law_spoilt, f__law_backwards := f__law_backwards, fd__law_backwards := fd__law_backwards, C_KeepError := C_KeepError, C_BadPlan := C_BadPlan, C_BadText := C_BadText, fI_BadText := fI_BadText, q_BadText := q_BadText, f_law := fa, fd_law := PySem.W.fnOf "law" "law" (L2.defArgs Ev.s_law) (L2.defBody Ev.s_law) (L2.defScope Ev.s_law) .none kV doc pm an (.ref c) ct } := { F_is_integer := F_is_integer, b_is_integer := b_is_integer, g_is_integer := g_is_integer, F_is_within := F_is_within, b_is_within := b_is_within, g_is_within := g_is_within, F_is_pair := F_is_pair, b_is_pair := b_is_pair, g_is_pair := g_is_pair, F_is_step := F_is_step, b_is_step := b_is_step, g_is_step := g_is_step, F_backwards := F_backwards, b_backwards := b_backwards, g_backwards := g_backwards, F_turned_back := F_turned_back, b_turned_back := b_turned_back, g_turned_back := g_turned_back, F_number_in := F_number_in, b_number_in := b_number_in, g_number_in := g_number_in, F_lines_in := F_lines_in, b_lines_in := b_lines_in, g_lines_in := g_lines_in, F_check_steps := F_check_steps, b_check_steps := b_check_steps, g_check_steps := g_check_steps, F_plan_text := F_plan_text, b_plan_text := b_plan_text, g_plan_text := g_plan_text, F_step_in := F_step_in, b_step_in := b_step_in, g_step_in := g_step_in, F_read_plan := F_read_plan, b_read_plan := b_read_plan, g_read_plan := g_read_plan, F__law_mixed := F__law_mixed, b__law_mixed := b__law_mixed, g__law_mixed := g__law_mixed, F__law_bag := F__law_bag, b__law_bag := b__law_bag, g__law_bag := g__law_bag, F__law_draw := F__law_draw, b__law_draw := b__law_draw, g__law_draw := g__law_draw, F__law_drawn := F__law_drawn, b__law_drawn := b__law_drawn, g__law_drawn := g__law_drawn, F__law_is_plan := F__law_is_plan, b__law_is_plan := b__law_is_plan, g__law_is_plan := g__law_is_plan, F__law_text := F__law_text, b__law_text := b__law_text, g__law_text := g__law_text, F__law_step := F__law_step, b__law_step := b__law_step, g__law_step := g__law_step, F__law_due := F__law_due, b__law_due := b__law_due, g__law_due := g__law_due, F__law_told := F__law_told, b__law_told := b__law_told, g__law_told := g__law_told, F__law_is_same := F__law_is_same, b__law_is_same := b__law_is_same, g__law_is_same := g__law_is_same, F__law_odd := F__law_odd, b__law_odd := b__law_odd, g__law_odd := g__law_odd, F__law_spoilt := F__law_spoilt, b__law_spoilt := b__law_spoilt, g__law_spoilt := g__law_spoilt, F__law_backwards := F__law_backwards, b__law_backwards := b__law_backwards, g__law_backwards := g__law_backwards, z_abs := z_abs, z_all := z_all, z_bool := z_bool, z_enumerate := z_enumerate, z_int := z_int, z_isinstance := z_isinstance, z_len := z_len, z_list := z_list, z_range := z_range, z_str := z_str, z_tuple := z_tuple, c_DROP := c_DROP, c_FIGURES := c_FIGURES, c_MOST_FIGURES := c_MOST_FIGURES, c_MOST_PIECE := c_MOST_PIECE, c_MOST_STEPS := c_MOST_STEPS, c_WRITE := c_WRITE, k_KeepError := CF.k_KeepError, k_BadPlan := CF.k_BadPlan, k_BadText := CF.k_BadText, x0_BadPlan := CF.x0_BadPlan, x1_BadText := CF.x1_BadText, ec_BadText := CF.ec_BadText, ki_BadText_KeepError := CF.ki_BadText_KeepError, xf_BadText := CF.xf_BadText, xn_BadText_line := CF.xn_BadText_line, ec_BadPlan := CF.ec_BadPlan, ki_BadPlan_KeepError := CF.ki_BadPlan_KeepError, em_BadText_BadText := CF.em_BadText_BadText, em_BadPlan_BadText := CF.em_BadPlan_BadText, em_BadPlan_BadPlan := CF.em_BadPlan_BadPlan, F_law := F_law, b_law := b_law, g_law := hmg }
    exact Ev.lawAt hP nP C (fun s v => .of_eq rfl) (fun ns hl => Ev.law_true P ns hl) fun base _ _ hTB => Ev.ok_all T lk hcd hTB
