import PyProof.Rows.All
import Wide.All
import OpenK.AllK
import Wide.FinOn
import HandS.ForMost
import HandS.ForExc
import HandS.Lambda
import HandS.TupAny
import HandS.IsInst
import HandS.Wide
import HandS.Iter
import KE.KExcSuper
import HandS.TryMany
import HandS.ExcField
import HandS.ExcIs
import HandS.Small
import HandS.Style
import HandS.NoneIn
import HandS.EndTab
import HandS.EndOwn
import KE.GoesMore
import HandS.Deep
import HandS.TupMul
import HandS.OwnEq
import PyProof.InstEq
import HandS.Codes
import KE.IntTextLaws
import PySem.Challenge.RW_lightfirst_k73_whole_webs_as_texts
set_option Elab.async false
set_option linter.all false
set_option maxRecDepth 100000
set_option autoImplicit false
/-! Ev1: values by content, heaps of mutable objects by number; how they lie on the hand layer's heap. -/
namespace Ev
open PySem PySem.Spec PyProof.Rows L2

/-- a value by its content; ref n: the n-th mutable object -/
inductive PV where
  | non | bl (b : Bool) | int (i : Int) | str (x : Str) | ty (n : String) | gl (x : Str)
  | ref (n : Nat) | tup (xs : List PV) | lst (xs : List PV) | rol (xs : List PV) | dct (ks : List Key) (xs : List PV) | ins (c : Str) (fs : List Str) (xs : List PV) | err (a : Addr) (c : Str) (d : Addr) (fs : List Str) (xs : List PV)
/-- a mutable object -/
inductive PO where
  | lst (xs : List PV) | dct (ks : List Key) (xs : List PV) | ins (c : Str) (fs : List Str) (xs : List PV) | tab (P : Addr) (q : Str)
abbrev PH := List PO
abbrev Ro := List (Option PV)
abbrev Sl := L2.St

/-- the ground: the written part, the module's names -/
structure Gr where
  K : PySem.W.Frag
  mg : Str → Option Value
/-- where the mutable objects lie; what is hidden -/
structure Fo where
  φ : List Addr
  ex : List Addr
def Fr (Φ : Fo) (a : Addr) : Prop := a ∉ Φ.φ ∧ a ∉ Φ.ex

/-- a list, a tuple of the written part -/
def StL (K : PySem.W.Frag) (a : Addr) (xs : List V) : Prop :=
  ∃ (o : Obj) (its : Array Value) (n : Nat), K.lookup a = some o ∧ o.cls = .type "list" ∧ o.dict = none ∧ o.data = .seq its n ∧ its.size ≤ sizeLine ∧ Vals xs its.toList
def StT (K : PySem.W.Frag) (a : Addr) (xs : List V) : Prop :=
  ∃ (o : Obj) (its : Array Value) (n : Nat), K.lookup a = some o ∧ o.cls = .type "tuple" ∧ o.data = .seq its n ∧ its.size ≤ sizeLine ∧ Vals xs its.toList

section
variable (G : Gr) (Φ : Fo) (H : Hp)
mutual
/-- pv lies at v -/
def R : PV → V → Prop
  | .non, v => v = .non
  | .bl b, v => v = .bl b
  | .int i, v => v = .int i
  | .str x, v => v = .str x
  | .ty n, v => v = .ty n
  | .gl x, v => ∃ a, G.mg x = some (.ref a) ∧ v = .ref a
  | .ref n, v => ∃ a, Φ.φ[n]? = some a ∧ v = .ref a
  | .tup xs, v => ∃ a vs, v = .ref a ∧ (Fr Φ a ∧ Rd H a (.tup vs) ∨ StT G.K a vs) ∧ Rs xs vs
  | .lst xs, v => ∃ a vs, v = .ref a ∧ Fr Φ a ∧ H a = some (.lst vs) ∧ Rs xs vs
  | .rol xs, v => ∃ a vs, v = .ref a ∧ (Fr Φ a ∧ Rd H a (.lst vs) ∨ StL G.K a vs) ∧ Rs xs vs
  | .dct ks xs, v => ∃ a kvs, v = .ref a ∧ Fr Φ a ∧ Rd H a (.dK kvs) ∧ kvs.map (·.1) = ks ∧ Rs xs (kvs.map (·.2))
  | .ins c fs xs, v => ∃ a C dx kvs, v = .ref a ∧ G.mg c = some (.ref C) ∧ Fr Φ a ∧ H a = some (.ins C dx kvs) ∧ kvs.map (·.1) = fs ∧ Rs xs (kvs.map (·.2))
  | .err a _ d fs xs, v => v = .ref a ∧ (fs = [] ∨ ∃ kvs, Fr Φ d ∧ H d = some (.xd kvs) ∧ kvs.map (·.1) = fs ∧ Rs xs (kvs.map (·.2)))
def Rs : List PV → List V → Prop
  | [], vs => vs = []
  | x :: xs, vs => ∃ v r, vs = v :: r ∧ R x v ∧ Rs xs r
end
/-- a mutable object lies at a -/
def Ob : PO → Addr → Prop
  | .lst xs, a => ∃ vs, H a = some (.lst vs) ∧ Rs G Φ H xs vs
  | .dct ks xs, a => ∃ kvs, H a = some (.dK kvs) ∧ kvs.map (·.1) = ks ∧ Rs G Φ H xs (kvs.map (·.2))
  | .ins c fs xs, a => ∃ C dx kvs, G.mg c = some (.ref C) ∧ H a = some (.ins C dx kvs) ∧ kvs.map (·.1) = fs ∧ Rs G Φ H xs (kvs.map (·.2))
  | .tab P q, a => a = P ∧ ∃ ps : Array Value, H a = some (.tbl ps) ∧ TriplesOk ps.toList ∧ ∀ (pos : Pos) (cv : Value), codeAmong pos ps.toList = some cv → ∃ c, cv = .ref c ∧ Fr Φ c ∧ H c = some (LamX.CodeO c q)
/-- all of them -/
structure Hr (h : PH) : Prop where
  nd : Φ.φ.Nodup
  len : Φ.φ.length = h.length
  exs : ∀ a ∈ Φ.ex, a ∉ Φ.φ ∧ ∃ vs, H a = some (.lst vs)
  ob : ∀ (n : Nat) (o : PO), h[n]? = some o → ∃ a, Φ.φ[n]? = some a ∧ Ob G Φ H o a
/-- the frame's slots -/
structure Ros (ρ : Ro) (σ : Sl) : Prop where
  len : ρ.length = σ.length
  at_ : ∀ (i : Nat) (p : PV), ρ[i]? = some (some p) → ∃ v, σ[i]? = some (some v) ∧ R G Φ H p v
/-- an exception's own dict -/
def XR (d : Option Addr) (fs : List Str) (xs : List PV) : Prop :=
  (d = none ∧ fs = [] ∧ xs = []) ∨ ∃ e kvs, d = some e ∧ fs ≠ [] ∧ Fr Φ e ∧ H e = some (.xd kvs) ∧ kvs.map (·.1) = fs ∧ Rs G Φ H xs (kvs.map (·.2))
end

/-- no table of codes -/
abbrev Nt (o : HO) : Prop := ∀ ps : Array Value, o ≠ .tbl ps
/-- nothing but a table may lie here -/
abbrev Vd (H : Hp) (a : Addr) : Prop := ∀ o, H a = some o → ¬ Nt o
theorem Vd.of {H : Hp} {a : Addr} (e : H a = none) : Vd H a := fun o q => by rw [e] at q; cases q
/-- what comes of a heap: the mutable ones may change, new ones may come, all else stays -/
structure Ext (Φ : Fo) (H : Hp) (Φ' : Fo) (H' : Hp) : Prop where
  exs : ∀ a ∈ Φ.ex, a ∈ Φ'.ex
  exn : ∀ a ∈ Φ'.ex, a ∉ Φ.ex → a ∉ Φ.φ → Vd H a
  pre : Φ.φ <+: Φ'.φ
  new : ∀ a ∈ Φ'.φ, a ∉ Φ.φ → Vd H a
  keep : ∀ a o, a ∉ Φ.φ → H a = some o → Nt o → H' a = some o

section
variable {G : Gr} {Φ Φ' Φ'' : Fo} {H H' H'' : Hp}
theorem Ext.refl : Ext Φ H Φ H := ⟨fun _ h => h, fun _ h n _ => absurd h n, List.prefix_rfl, fun _ h n => absurd h n, fun _ _ _ h _ => h⟩
theorem Ext.trans (a : Ext Φ H Φ' H') (b : Ext Φ' H' Φ'' H'') : Ext Φ H Φ'' H'' where
  exs := fun c h => b.exs c (a.exs c h)
  exn := fun c h n m => by
    by_cases hc : c ∈ Φ'.ex
    · exact a.exn c hc n m
    · by_cases hf : c ∈ Φ'.φ
      · exact a.new c hf m
      · exact fun o q k => b.exn c h hc hf o (a.keep c o m q k) k
  pre := a.pre.trans b.pre
  new := fun c h n => by
    by_cases hc : c ∈ Φ'.φ
    · exact a.new c hc n
    · exact fun o q k => b.new c h hc o (a.keep c o n q k) k
  keep := fun c o n q k => by
    by_cases hc : c ∈ Φ'.φ
    · exact absurd k (a.new c hc n o q)
    · exact b.keep c o hc (a.keep c o n q k) k
theorem Ext.fr (e : Ext Φ H Φ' H') {a : Addr} {o : HO} (f : Fr Φ a) (h : H a = some o) (k : Nt o := by exact fun _ z => nomatch z) : Fr Φ' a ∧ H' a = some o :=
  ⟨⟨fun z => e.new a z f.1 o h k, fun z => e.exn a z f.2 f.1 o h k⟩, e.keep a o f.1 h k⟩
theorem Ext.ref (e : Ext Φ H Φ' H') {n : Nat} {a : Addr} (h : Φ.φ[n]? = some a) : Φ'.φ[n]? = some a := by
  obtain ⟨t, ht⟩ := e.pre
  rw [← ht, List.getElem?_append_left (List.getElem?_eq_some_iff.mp h).1]; exact h

/-- a map of values that keeps by-content ones -/
structure Mv (Φ : Fo) (H : Hp) (Φ' : Fo) (H' : Hp) : Prop where
  fr : ∀ a o, Fr Φ a → H a = some o → Nt o → Fr Φ' a ∧ H' a = some o
  ref : ∀ (n : Nat) (a : Addr), Φ.φ[n]? = some a → Φ'.φ[n]? = some a
theorem Ext.mv (e : Ext Φ H Φ' H') : Mv Φ H Φ' H' := ⟨fun _ _ f h k => e.fr f h k, fun _ _ h => e.ref h⟩
theorem Mv.rd (e : Mv Φ H Φ' H') {a : Addr} {o : HO} (f : Fr Φ a) (h : Rd H a o) (k : Nt o := by exact fun _ z => nomatch z) : Fr Φ' a ∧ Rd H' a o := by
  rcases h with h | ⟨u, h⟩
  · exact ⟨(e.fr _ _ f h k).1, .inl (e.fr _ _ f h k).2⟩
  · exact ⟨(e.fr _ _ f h fun _ z => nomatch z).1, .inr ⟨u, (e.fr _ _ f h fun _ z => nomatch z).2⟩⟩
mutual
theorem R.mv (e : Mv Φ H Φ' H') : ∀ {p : PV} {v : V}, R G Φ H p v → R G Φ' H' p v
  | .non, _, h => h
  | .bl _, _, h => h
  | .int _, _, h => h
  | .str _, _, h => h
  | .ty _, _, h => h
  | .gl _, _, h => h
  | .ref _, _, h => by
    obtain ⟨a, h1, h2⟩ := h
    exact ⟨a, e.ref _ _ h1, h2⟩
  | .tup _, _, h => by
    obtain ⟨a, vs, h1, h2, h3⟩ := h
    exact ⟨a, vs, h1, h2.imp (fun q => e.rd q.1 q.2) (fun q => q), Rs.mv e h3⟩
  | .lst _, _, h => by
    obtain ⟨a, vs, h1, h2, h3, h4⟩ := h
    have q := e.fr _ _ h2 h3 fun _ z => nomatch z
    exact ⟨a, vs, h1, q.1, q.2, Rs.mv e h4⟩
  | .rol _, _, h => by
    obtain ⟨a, vs, h1, h2, h3⟩ := h
    exact ⟨a, vs, h1, h2.imp (fun q => e.rd q.1 q.2) (fun q => q), Rs.mv e h3⟩
  | .dct _ _, _, h => by
    obtain ⟨a, kvs, h1, h2, h3, h4, h5⟩ := h
    exact ⟨a, kvs, h1, (e.rd h2 h3).1, (e.rd h2 h3).2, h4, Rs.mv e h5⟩
  | .ins _ _ _, _, h => by
    obtain ⟨a, C, dx, kvs, h1, h2, h3, h4, h5, h6⟩ := h
    have q := e.fr _ _ h3 h4 fun _ z => nomatch z
    exact ⟨a, C, dx, kvs, h1, h2, q.1, q.2, h5, Rs.mv e h6⟩
  | .err _ _ _ _ _, _, h => by
    obtain ⟨h1, h2⟩ := h
    refine ⟨h1, h2.imp (fun z => z) fun z => ?_⟩
    obtain ⟨kvs, k1, k2, k3, k4⟩ := z
    have q := e.fr _ _ k1 k2 fun _ z => nomatch z
    exact ⟨kvs, q.1, q.2, k3, Rs.mv e k4⟩
theorem Rs.mv (e : Mv Φ H Φ' H') : ∀ {p : List PV} {v : List V}, Rs G Φ H p v → Rs G Φ' H' p v
  | [], _, h => h
  | _ :: _, _, h => by
    obtain ⟨v, r, h1, h2, h3⟩ := h
    exact ⟨v, r, h1, R.mv e h2, Rs.mv e h3⟩
end
theorem R.ext {p : PV} {v : V} (h : R G Φ H p v) (e : Ext Φ H Φ' H') : R G Φ' H' p v := R.mv e.mv h
theorem Rs.ext {p : List PV} {v : List V} (h : Rs G Φ H p v) (e : Ext Φ H Φ' H') : Rs G Φ' H' p v := Rs.mv e.mv h
theorem Ros.mv {ρ : Ro} {σ : Sl} (h : Ros G Φ H ρ σ) (e : Mv Φ H Φ' H') : Ros G Φ' H' ρ σ :=
  ⟨h.len, fun i p q => let ⟨v, a, b⟩ := h.at_ i p q; ⟨v, a, R.mv e b⟩⟩
theorem Ros.ext {ρ : Ro} {σ : Sl} (h : Ros G Φ H ρ σ) (e : Ext Φ H Φ' H') : Ros G Φ' H' ρ σ := h.mv e.mv
theorem Ros.set {ρ : Ro} {σ : Sl} {p : PV} {v : V} (h : Ros G Φ H ρ σ) (i : Nat) (r : R G Φ H p v) : Ros G Φ H (ρ.set i (some p)) (σ.set i (some v)) := by
  refine ⟨by rw [List.length_set, List.length_set]; exact h.len, fun j q e => ?_⟩
  by_cases hj : i = j
  · subst hj
    have hl : i < ρ.length := by have := (List.getElem?_eq_some_iff.mp e).1; rwa [List.length_set] at this
    rw [List.getElem?_set_self hl] at e
    cases e
    exact ⟨v, by rw [List.getElem?_set_self (by rw [← h.len]; exact hl)], r⟩
  · rw [List.getElem?_set_ne hj] at e ⊢
    exact h.at_ j q e
theorem Rs.length : ∀ {p : List PV} {v : List V}, Rs G Φ H p v → p.length = v.length
  | [], v, h => by rw [show v = [] from h]; rfl
  | _ :: _, _, h => by
    obtain ⟨v, r, rfl, _, h3⟩ := h
    rw [List.length_cons, List.length_cons, Rs.length h3]
theorem Rs.get : ∀ {p : List PV} {v : List V} {i : Nat} {x : PV}, Rs G Φ H p v → p[i]? = some x → ∃ u, v[i]? = some u ∧ R G Φ H x u
  | [], _, _, _, _, e => by simp at e
  | _ :: _, _, 0, _, h, e => by
    obtain ⟨v, r, rfl, h2, _⟩ := h
    simp at e; subst e
    exact ⟨v, rfl, h2⟩
  | _ :: _, _, i + 1, x, h, e => by
    obtain ⟨v, r, rfl, _, h3⟩ := h
    obtain ⟨u, a, b⟩ := Rs.get (i := i) (x := x) h3 (by simpa using e)
    exact ⟨u, by simpa using a, b⟩
theorem Rs.append : ∀ {p q : List PV} {v u : List V}, Rs G Φ H p v → Rs G Φ H q u → Rs G Φ H (p ++ q) (v ++ u)
  | [], _, _, _, h, k => by rw [show _ = [] from h]; exact k
  | _ :: _, _, _, _, h, k => by
    obtain ⟨v, r, rfl, h2, h3⟩ := h
    exact ⟨v, _, rfl, h2, Rs.append h3 k⟩
theorem Rs.take : ∀ {p : List PV} {v : List V} (n : Nat), Rs G Φ H p v → Rs G Φ H (p.take n) (v.take n)
  | _, _, 0, _ => rfl
  | [], _, _ + 1, h => by rw [show _ = [] from h]; rfl
  | _ :: _, _, n + 1, h => by
    obtain ⟨v, r, rfl, h2, h3⟩ := h
    exact ⟨v, _, rfl, h2, Rs.take n h3⟩
theorem Rs.drop : ∀ {p : List PV} {v : List V} (n : Nat), Rs G Φ H p v → Rs G Φ H (p.drop n) (v.drop n)
  | _, _, 0, h => h
  | [], _, _ + 1, h => by rw [show _ = [] from h]; rfl
  | _ :: _, _, n + 1, h => by
    obtain ⟨v, r, rfl, _, h3⟩ := h
    exact Rs.drop n h3
theorem Rs.reverse : ∀ {p : List PV} {v : List V}, Rs G Φ H p v → Rs G Φ H p.reverse v.reverse
  | [], _, h => by rw [show _ = [] from h]; rfl
  | _ :: _, _, h => by
    obtain ⟨v, r, rfl, h2, h3⟩ := h
    rw [List.reverse_cons, List.reverse_cons]
    exact Rs.append (Rs.reverse h3) ⟨v, [], rfl, h2, rfl⟩
theorem Rs.set {x : PV} {u : V} : ∀ {p : List PV} {v : List V} (i : Nat), Rs G Φ H p v → R G Φ H x u → Rs G Φ H (p.set i x) (v.set i u)
  | [], _, _, h, _ => by rw [show _ = [] from h]; rfl
  | _ :: _, _, 0, h, k => by
    obtain ⟨v, r, rfl, _, h3⟩ := h
    exact ⟨u, r, rfl, k, h3⟩
  | _ :: _, _, i + 1, h, k => by
    obtain ⟨v, r, rfl, h2, h3⟩ := h
    exact ⟨v, _, rfl, h2, Rs.set i h3 k⟩
theorem Rs.snoc {p : List PV} {v : List V} {x : PV} {u : V} (h : Rs G Φ H p v) (k : R G Φ H x u) : Rs G Φ H (p ++ [x]) (v ++ [u]) := h.append ⟨u, [], rfl, k, rfl⟩
theorem Rs.replicate {x : PV} {u : V} (k : R G Φ H x u) : ∀ n : Nat, Rs G Φ H (List.replicate n x) (List.replicate n u)
  | 0 => rfl
  | n + 1 => ⟨u, _, rfl, k, Rs.replicate k n⟩
theorem Ob.mv {o : PO} {a : Addr} (h : Ob G Φ H o a) (e : Mv Φ H Φ' H') (he : H' a = H a) : Ob G Φ' H' o a := by
  cases o with
  | lst xs => obtain ⟨vs, h1, h2⟩ := h; exact ⟨vs, he.trans h1, h2.mv e⟩
  | dct ks xs => obtain ⟨kvs, h1, h2, h3⟩ := h; exact ⟨kvs, he.trans h1, h2, h3.mv e⟩
  | ins c fs xs => obtain ⟨C, dx, kvs, h1, h2, h3, h4⟩ := h; exact ⟨C, dx, kvs, h1, he.trans h2, h3, h4.mv e⟩
  | tab P q =>
    obtain ⟨h0, ps, h1, h2, h3⟩ := h
    refine ⟨h0, ps, he.trans h1, h2, fun pos cv hc => ?_⟩
    obtain ⟨c, e1, e2, e3⟩ := h3 pos cv hc
    have q := e.fr _ _ e2 e3 (LamX.codeO_ne)
    exact ⟨c, e1, q.1, q.2⟩
theorem Ob.there {o : PO} {a : Addr} (h : Ob G Φ H o a) : ∃ u, H a = some u := by
  cases o with
  | lst xs => obtain ⟨vs, h1, h2⟩ := h; exact ⟨_, h1⟩
  | dct ks xs => obtain ⟨kvs, h1, h2, h3⟩ := h; exact ⟨_, h1⟩
  | ins c fs xs => obtain ⟨C, dx, kvs, h1, h2, h3, h4⟩ := h; exact ⟨_, h2⟩
  | tab P q => obtain ⟨h0, ps, h1, h2⟩ := h; exact ⟨_, h1⟩
theorem Hr.there {h : PH} (r : Hr G Φ H h) {a : Addr} (m : a ∈ Φ.φ) : ∃ u, H a = some u := by
  obtain ⟨n, hn, e⟩ := List.getElem_of_mem m
  have hl : n < h.length := by rw [← r.len]; exact hn
  obtain ⟨b, hb, o⟩ := r.ob n h[n] (List.getElem?_eq_getElem hl)
  rw [List.getElem?_eq_getElem hn, e] at hb
  cases hb
  exact o.there
theorem Hr.free {h : PH} (r : Hr G Φ H h) {p : Addr} (n : H p = none) : p ∉ Φ.φ := fun m => by
  obtain ⟨u, e⟩ := r.there m
  rw [n] at e; cases e

/-- a new object that is not ours to change: the heap grows -/
theorem Ext.laid {h : PH} (r : Hr G Φ H h) {p : Addr} {o : HO} (n : H p = none) : Ext Φ H Φ (upd H p o) :=
  ⟨fun _ h => h, fun _ h n _ => absurd h n, List.prefix_rfl, fun _ m k => absurd m k, fun a u _ e _ => by rw [upd_ne (ne_of_none e n)]; exact e⟩
theorem Hr.fre {h : PH} (r : Hr G Φ H h) {p : Addr} (n : H p = none) : Fr Φ p := ⟨r.free n, fun m => by
  obtain ⟨_, o, e⟩ := r.exs p m
  rw [n] at e; cases e⟩
theorem Hr.keepEx {h : PH} (r : Hr G Φ H h) (e : Ext Φ H Φ' H') (he : Φ'.ex = Φ.ex := by rfl) : ∀ a ∈ Φ'.ex, a ∉ Φ'.φ ∧ ∃ vs, H' a = some (.lst vs) := fun a m => by
  obtain ⟨n, o, q⟩ := r.exs a (he ▸ m)
  have k : Nt (.lst o) := fun _ z => nomatch z
  exact ⟨fun z => e.new a z n _ q k, o, e.keep a _ n q k⟩
theorem Hr.ext0 {h : PH} (r : Hr G Φ H h) (e : Ext Φ H Φ H') (k : ∀ a ∈ Φ.φ, H' a = H a) : Hr G Φ H' h :=
  ⟨r.nd, r.len, r.keepEx e, fun n o q => let ⟨a, h1, h2⟩ := r.ob n o q; ⟨a, h1, h2.mv e.mv (k a (List.mem_of_getElem? h1))⟩⟩
theorem Hr.laid {h : PH} (r : Hr G Φ H h) {p : Addr} {o : HO} (n : H p = none) : Hr G Φ (upd H p o) h :=
  r.ext0 (Ext.laid r n) fun a m => upd_ne fun z => r.free n (z ▸ m)
/-- .. and is one of ours -/
abbrev Fo.add (Φ : Fo) (p : Addr) : Fo := ⟨Φ.φ ++ [p], Φ.ex⟩
theorem Ext.added {h : PH} (r : Hr G Φ H h) {p : Addr} {o : HO} (n : H p = none) : Ext Φ H (Φ.add p) (upd H p o) :=
  ⟨fun _ h => h, fun _ h n _ => absurd h n, List.prefix_append _ _, fun a m k => by
    rcases List.mem_append.mp m with m | m
    · exact absurd m k
    · rw [List.mem_singleton.mp m]; exact Vd.of n, fun a u _ e _ => by rw [upd_ne (ne_of_none e n)]; exact e⟩
theorem Hr.added {h : PH} (r : Hr G Φ H h) {p : Addr} {u : HO} {o : PO} (n : H p = none) (ho : Ob G (Φ.add p) (upd H p u) o p) : Hr G (Φ.add p) (upd H p u) (h ++ [o]) := by
  have e := Ext.added (o := u) r n
  refine ⟨?_, by simp [Fo.add, r.len], r.keepEx e, fun m o' q => ?_⟩
  · refine List.nodup_append.mpr ⟨r.nd, by simp, fun a ha b hb => ?_⟩
    rw [List.mem_singleton.mp hb]
    rintro rfl
    exact r.free n ha
  · by_cases hm : m < h.length
    · rw [List.getElem?_append_left hm] at q
      obtain ⟨a, h1, h2⟩ := r.ob m o' q
      exact ⟨a, e.ref h1, h2.mv e.mv (upd_ne fun z => r.free n (z ▸ List.mem_of_getElem? h1))⟩
    · have hm' : m = h.length := by
        have := (List.getElem?_eq_some_iff.mp q).1
        simp at this; omega
      subst hm'
      simp at q
      subst q
      exact ⟨p, by simp [Fo.add, ← r.len], ho⟩
/-- one of ours is changed -/
theorem Ext.wrote {n : Nat} {p : Addr} {u : HO} (hp : Φ.φ[n]? = some p) : Ext Φ H Φ (upd H p u) :=
  ⟨fun _ h => h, fun _ h n _ => absurd h n, List.prefix_rfl, fun _ m k => absurd m k, fun a o k e _ => by rw [upd_ne (show a ≠ p from fun z => k (by rw [z]; exact List.mem_of_getElem? hp))]; exact e⟩
theorem Hr.wrote {h : PH} (r : Hr G Φ H h) {n : Nat} {p : Addr} {u : HO} {o : PO} (hp : Φ.φ[n]? = some p) (ho : Ob G Φ (upd H p u) o p) : Hr G Φ (upd H p u) (h.set n o) := by
  have e := Ext.wrote (H := H) (u := u) hp
  refine ⟨r.nd, by rw [List.length_set]; exact r.len, r.keepEx e, fun m o' q => ?_⟩
  by_cases hm : n = m
  · subst hm
    have hl : n < h.length := by have := (List.getElem?_eq_some_iff.mp q).1; rwa [List.length_set] at this
    rw [List.getElem?_set_self hl] at q
    cases q
    exact ⟨p, hp, ho⟩
  · rw [List.getElem?_set_ne hm] at q
    obtain ⟨a, h1, h2⟩ := r.ob m o' q
    refine ⟨a, h1, h2.mv e.mv (upd_ne fun z => hm ?_)⟩
    subst z
    obtain ⟨l1, e1⟩ := List.getElem?_eq_some_iff.mp hp
    obtain ⟨l2, e2⟩ := List.getElem?_eq_some_iff.mp h1
    exact (List.getElem_inj r.nd).mp (e1.trans e2.symm)
/-- a new list: by content, or ours to change -/
def newL (b : Bool) (xs : List PV) (h : PH) : PV × PH := if b then (.ref h.length, h ++ [.lst xs]) else (.lst xs, h)
theorem newL_ok {h : PH} (r : Hr G Φ H h) {b : Bool} {xs : List PV} {vs : List V} (rx : Rs G Φ H xs vs) {p : Addr} (n : H p = none) :
    ∃ Φ', Ext Φ H Φ' (upd H p (.lst vs)) ∧ Hr G Φ' (upd H p (.lst vs)) (newL b xs h).2 ∧ R G Φ' (upd H p (.lst vs)) (newL b xs h).1 (.ref p) := by
  cases b with
  | false => exact ⟨Φ, Ext.laid r n, r.laid n, p, vs, rfl, r.fre n, upd_same, rx.ext (Ext.laid r n)⟩
  | true =>
    have e : Ext Φ H (Φ.add p) (upd H p (.lst vs)) := Ext.added r n
    exact ⟨Φ.add p, e, r.added n ⟨vs, upd_same, rx.ext e⟩, p, by simp [Fo.add, ← r.len], rfl⟩
theorem newT_ok {h : PH} (r : Hr G Φ H h) {xs : List PV} {vs : List V} (rx : Rs G Φ H xs vs) {p : Addr} (n : H p = none) :
    Ext Φ H Φ (upd H p (.tup vs)) ∧ Hr G Φ (upd H p (.tup vs)) h ∧ R G Φ (upd H p (.tup vs)) (.tup xs) (.ref p) :=
  ⟨Ext.laid r n, r.laid n, p, vs, rfl, .inl ⟨r.fre n, .inl upd_same⟩, rx.ext (Ext.laid r n)⟩
end
end Ev
/-! Ev2: outcomes, what a code means (tm), names, operators, tests, arguments, calls. -/
namespace Ev
open PySem PySem.Spec PyProof.Rows L2

inductive Out (α : Type) where
  | ok (a : α) (h : PH) | ex (c : Str) (fs : List Str) (xs : List PV) (h : PH) | bad
def Out.bind {α β : Type} (o : Out α) (k : α → PH → Out β) : Out β := match o with
  | .ok a h => k a h
  | .ex c fs xs h => .ex c fs xs h
  | .bad => .bad
def opt {α : Type} : Option (α × PH) → Out α
  | some (a, h) => .ok a h
  | none => .bad
abbrev gr (X : Cx) : Gr := ⟨X.K, X.mg⟩
abbrev Rel (α β : Type) := Fo → Hp → α → β → Prop
abbrev rB : Rel Bool Bool := fun _ _ a b => a = b
abbrev rO : Rel (Option Int) (Option Int) := fun _ _ a b => a = b

section
variable {α β γ δ : Type}
/-- what is wanted of an outcome that raises nothing -/
def okP (rel : Rel α β) (G : Gr) (Q : β → Hp → Prop) (Φ : Fo) (H : Hp) : Option (α × PH) → Prop
  | some (a, h) => ∀ Φ' H' b, Ext Φ H Φ' H' → Hr G Φ' H' h → rel Φ' H' a b → Q b H'
  | none => False
/-- what is wanted of an outcome -/
def okO (rel : Rel α β) (G : Gr) (W : WX) (Q : β → Hp → Prop) (σ : Sl) (Φ : Fo) (H : Hp) : Out α → Prop
  | .ok a h => ∀ Φ' H' b, Ext Φ H Φ' H' → Hr G Φ' H' h → rel Φ' H' a b → Q b H'
  | .ex c fs xs h => ∀ Φ' H' C d, Ext Φ H Φ' H' → Hr G Φ' H' h → G.mg c = some (.ref C) → XR G Φ' H' d fs xs → W (.ref C) d σ H'
  | .bad => False
/-- what a code that means m asks -/
def tm (rel : Rel α β) (G : Gr) (W : WX) (m : Ro → PH → Out α) : Sl → Hp → (β → Hp → Prop) → Prop := fun σ H Q =>
  ∃ ρ h Φ, Hr G Φ H h ∧ Ros G Φ H ρ σ ∧ okO rel G W Q σ Φ H (m ρ h)
abbrev EM := Ro → PH → Out PV
abbrev tmE (G : Gr) (W : WX) (m : EM) : TE := tm (R G) G W m
abbrev tmT (G : Gr) (W : WX) (m : Ro → PH → Out Bool) : TT := tm rB G W m
abbrev tmA (G : Gr) (W : WX) (m : Ro → PH → Out (List PV)) : TA := tm (Rs G) G W m

variable {G : Gr} {W : WX} {σ : Sl} {Φ Φ' : Fo} {H H' : Hp} {rel : Rel α β} {rel' : Rel γ δ} {Q : β → Hp → Prop} {Q' : δ → Hp → Prop}
theorem okO.start {o : Out α} (e : Ext Φ H Φ' H') (h : okO rel G W Q σ Φ H o) : okO rel G W Q σ Φ' H' o := by
  cases o with
  | ok a h' => exact fun Φ2 H2 b e2 r q => h Φ2 H2 b (e.trans e2) r q
  | ex c fs xs h' => exact fun Φ2 H2 C d e2 r q x => h Φ2 H2 C d (e.trans e2) r q x
  | bad => exact h
theorem okP.start {o : Option (α × PH)} (e : Ext Φ H Φ' H') (h : okP rel G Q Φ H o) : okP rel G Q Φ' H' o := by
  cases o with
  | some p => exact fun Φ2 H2 b e2 r q => h Φ2 H2 b (e.trans e2) r q
  | none => exact h
theorem okO.opt {o : Option (α × PH)} (h : okO rel G W Q σ Φ H (opt o)) : okP rel G Q Φ H o := by
  cases o with
  | some p => exact h
  | none => exact h
/-- the first of two, and what is wanted of the second -/
theorem okO.bind {o : Out α} {k : α → PH → Out γ} (hk : okO rel' G W Q' σ Φ H (o.bind k))
    (st : ∀ a h' Φ' H' b, Ext Φ H Φ' H' → Hr G Φ' H' h' → rel Φ' H' a b → okO rel' G W Q' σ Φ' H' (k a h') → Q b H') : okO rel G W Q σ Φ H o := by
  cases o with
  | ok a h' => exact fun Φ2 H2 b e r q => st a h' Φ2 H2 b e r q (okO.start e hk)
  | ex c fs xs h' => exact hk
  | bad => exact hk
theorem okO.mono {o : Out α} {Q2 : β → Hp → Prop} (h : okO rel G W Q σ Φ H o) (hq : ∀ b H', Q b H' → Q2 b H') : okO rel G W Q2 σ Φ H o := by
  cases o with
  | ok a h' => exact fun Φ2 H2 b e r q => hq _ _ (h Φ2 H2 b e r q)
  | ex c fs xs h' => exact h
  | bad => exact h
end

theorem PE_imp {X : Cx} {e : Expr} {t t' : TE} (h : PE X e t) (i : ∀ σ H Q, t' σ H Q → t σ H Q) : PE X e t' := ⟨fun pins s σ H Q I q => h.run pins s σ H Q I (i _ _ _ q)⟩
theorem PT_imp {X : Cx} {e : Expr} {t t' : TT} (h : PT X e t) (i : ∀ σ H Q, t' σ H Q → t σ H Q) : PT X e t' := ⟨fun pins s σ H Q I q => h.run pins s σ H Q I (i _ _ _ q)⟩
theorem PW_imp {X : Cx} {e : Expr} {t t' : TT} (h : PW X e t) (i : ∀ σ H Q, t' σ H Q → t σ H Q) : PW X e t' := ⟨fun wh pins s σ H Q I q => h.run wh pins s σ H Q I (i _ _ _ q)⟩
theorem PA_imp {X : Cx} {e : List Expr} {t t' : TA} (h : PA X e t) (i : ∀ σ H Q, t' σ H Q → t σ H Q) : PA X e t' := ⟨fun pos pins s σ H Q I q => h.run pos pins s σ H Q I (i _ _ _ q)⟩

/-! ### names and constants -/
def mV (i : Nat) : EM := fun ρ h => match ρ[i]? with
  | some (some v) => .ok v h
  | _ => .bad
def mC (p : PV) : EM := fun _ h => .ok p h
section
variable {X : Cx} {W : WX} {pos : Pos}
theorem me_v (i : Nat) {x : Str} (hN : X.N[i]? = some x := by rfl) (hv : Vis X.env.scope x := by first | exact Or.inl rfl | exact Or.inr (Or.inl rfl) | exact Or.inr (Or.inr rfl)) (hd : (x == ("__debug__" : Str)) = false := by decide)
    (hcd : (x == ("__classdict__" : Str)) = false := by decide) : PE X (.Name x pos) (tmE (gr X) W (mV i)) := by
  refine PE_imp (pe_var hN hv hd hcd) fun σ H Q ⟨ρ, h, Φ, r, rs, q⟩ => ?_
  unfold mV at q
  split at q
  · rename_i v e
    obtain ⟨u, e1, r1⟩ := rs.at_ i v e
    exact ⟨u, e1, q Φ H u .refl r r1⟩
  · exact q.elim
theorem tmC {G : Gr} {σ : Sl} {H : Hp} {Q : VK} {p : PV} {v : V} (rv : ∀ Φ, R G Φ H p v) (q : tmE G W (mC p) σ H Q) : Q v H := by
  obtain ⟨ρ, h, Φ, r, rs, q⟩ := q
  exact q Φ H v .refl r (rv Φ)
theorem me_int {i j} : PE X (.Constant (.int i) j pos) (tmE (gr X) W (mC (.int i))) := PE_imp pe_int fun _ _ _ q => tmC (p := .int i) (fun _ => rfl) q
theorem me_bl {i j} : PE X (.Constant (.bool i) j pos) (tmE (gr X) W (mC (.bl i))) := PE_imp pe_bl fun _ _ _ q => tmC (p := .bl i) (fun _ => rfl) q
theorem me_non {j} : PE X (.Constant .none j pos) (tmE (gr X) W (mC .non)) := PE_imp pe_non fun _ _ _ q => tmC (p := .non) (fun _ => rfl) q
theorem me_str {i j} : PE X (.Constant (.str i) j pos) (tmE (gr X) W (mC (.str i))) := PE_imp pe_str fun _ _ _ q => tmC (p := .str i) (fun _ => rfl) q
/-- a module's constant -/
theorem me_cint {x : Str} {i : Int} {t : Tok} (hm : X.mg x = some (.int i t)) (hg : Gl X x := by rfl) (hd : (x == ("__debug__" : Str)) = false := by decide) : PE X (.Name x pos) (tmE (gr X) W (mC (.int i))) :=
  PE_imp (pe_glob (v := .int i) hg hm ⟨t, rfl⟩ hd) fun _ _ _ q => tmC (p := .int i) (fun _ => rfl) q
theorem me_cstr {x : Str} {i : Str} {t : Tok} (hm : X.mg x = some (.str i t)) (hg : Gl X x := by rfl) (hd : (x == ("__debug__" : Str)) = false := by decide) : PE X (.Name x pos) (tmE (gr X) W (mC (.str i))) :=
  PE_imp (pe_glob (v := .str i) hg hm ⟨t, rfl⟩ hd) fun _ _ _ q => tmC (p := .str i) (fun _ => rfl) q
/-- a class, a def as a value -/
theorem me_gl {x : Str} {a : Addr} (hm : X.mg x = some (.ref a)) (hg : Gl X x := by rfl) (hd : (x == ("__debug__" : Str)) = false := by decide) : PE X (.Name x pos) (tmE (gr X) W (mC (.gl x))) :=
  PE_imp (pe_glob (v := .ref a) hg hm rfl hd) fun _ _ _ q => tmC (p := .gl x) (fun _ => ⟨a, hm, rfl⟩) q
/-- a built-in class as a value -/
theorem me_ty {x : Str} {n : String} (hm : X.mg x = none) (hv : bootBuiltins x = some (.type n) := by decide +kernel) (hg : Gl X x := by rfl) (hn : x ≠ "__name__" := by decide) (hd : (x == ("__debug__" : Str)) = false := by decide) :
    PE X (.Name x pos) (tmE (gr X) W (mC (.ty n))) := PE_imp (pe_bltn (v := .ty n) hg hm hv rfl hn hd) fun _ _ _ q => tmC (p := .ty n) (fun _ => rfl) q
end

/-! ### operators on values -/
abbrev OpF := PV → PV → PH → Option (PV × PH)
def rOp (G : Gr) (g : OpF) : R2 := fun x y H Q => ∃ p q h Φ, Hr G Φ H h ∧ R G Φ H p x ∧ R G Φ H q y ∧ okP (R G) G Q Φ H (g p q h)
abbrev OpM (X : Cx) (f : Value → Value → Sem Value) (g : OpF) : Prop := OpR X f (rOp (gr X) g)
theorem OpM.of {X : Cx} {f : Value → Value → Sem Value} {g : OpF} {r : R2} (ho : OpR X f r)
    (hg : ∀ x y H Q p q h Φ, Hr (gr X) Φ H h → R (gr X) Φ H p x → R (gr X) Φ H q y → okP (R (gr X)) (gr X) Q Φ H (g p q h) → r x y H Q) : OpM X f g := by
  intro pins s σ H x y v u Q I rx ry ⟨p, q, h, Φ, a, b, c, d⟩
  exact ho pins s σ H x y v u Q I rx ry (hg x y H Q p q h Φ a b c d)
def orF (g g' : OpF) : OpF := fun p q h => match g p q h with
  | some r => some r
  | none => g' p q h
theorem OpM.or {X : Cx} {f : Value → Value → Sem Value} {g g' : OpF} (a : OpM X f g) (b : OpM X f g') : OpM X f (orF g g') := by
  intro pins s σ H x y v u Q I rx ry ⟨p, q, h, Φ, r, r1, r2, k⟩
  unfold orF at k
  split at k
  · rename_i z e
    exact a pins s σ H x y v u Q I rx ry ⟨p, q, h, Φ, r, r1, r2, by rw [e]; exact k⟩
  · exact b pins s σ H x y v u Q I rx ry ⟨p, q, h, Φ, r, r1, r2, k⟩
def mBin (g : OpF) (a b : EM) : EM := fun ρ h => (a ρ h).bind fun p h1 => (b ρ h1).bind fun q h2 => opt (g p q h2)
section
variable {X : Cx} {W : WX} {pos : Pos} {a b c : Expr} {ma mb mc : EM} {g g' : OpF}
theorem bin_ok {G : Gr} {σ : Sl} {H : Hp} {Q : VK} (q : tmE G W (mBin g ma mb) σ H Q) : tOp (rOp G g) (tmE G W ma) (tmE G W mb) σ H Q := by
  obtain ⟨ρ, h, Φ, r, rs, q⟩ := q
  refine ⟨ρ, h, Φ, r, rs, okO.bind q fun p h1 Φ1 H1 x e1 r1 rp q1 => ⟨ρ, h1, Φ1, r1, rs.ext e1, okO.bind q1 fun p2 h2 Φ2 H2 y e2 r2 rq q2 => ?_⟩⟩
  exact ⟨p, p2, h2, Φ2, r2, rp.ext e2, rq, q2.opt⟩
theorem me_op {op : Operator} (ho : OpM X (binaryOp op) g) (ha : PE X a (tmE (gr X) W ma)) (hb : PE X b (tmE (gr X) W mb)) : PE X (.BinOp a op b pos) (tmE (gr X) W (mBin g ma mb)) :=
  PE_imp (pe_op ho ha hb) fun _ _ _ q => bin_ok q
theorem me_cmp {op : CmpOp} (ho : OpM X (compareOp op) g) (ha : PE X a (tmE (gr X) W ma)) (hb : PE X b (tmE (gr X) W mb)) (hm : behindInMarks op b = false := by first | exact nomark _ | rfl) :
    PE X (.Compare a [op] [b] pos) (tmE (gr X) W (mBin g ma mb)) := PE_imp (pe_cmpR ho ha hb hm) fun _ _ _ q => bin_ok q
/-- a op1 b op2 c -/
def mCh (g g' : OpF) (a b c : EM) : EM := fun ρ h => (a ρ h).bind fun p h1 => (b ρ h1).bind fun q h2 => (opt (g p q h2)).bind fun z h3 => match z with
  | .bl true => (c ρ h3).bind fun w h4 => opt (g' q w h4)
  | .bl false => .ok (.bl false) h3
  | _ => .bad
theorem chain_ok {G : Gr} {σ : Sl} {H : Hp} {Q : VK} (q : tmE G W (mCh g g' ma mb mc) σ H Q) : tChain (rOp G g) (rOp G g') (tmE G W ma) (tmE G W mb) (tmE G W mc) σ H Q := by
  obtain ⟨ρ, h, Φ, r, rs, q⟩ := q
  refine ⟨ρ, h, Φ, r, rs, okO.bind q fun p h1 Φ1 H1 x e1 r1 rp q1 => ⟨ρ, h1, Φ1, r1, rs.ext e1, okO.bind q1 fun p2 h2 Φ2 H2 y e2 r2 rq q2 => ?_⟩⟩
  refine ⟨p, p2, h2, Φ2, r2, rp.ext e2, rq, (okO.bind q2 fun z h3 Φ3 H3 zv e3 r3 rz q3 => ?_).opt⟩
  cases z with
  | bl k =>
    have rz' : zv = .bl k := rz
    subst rz'
    refine ⟨k, rfl, ?_⟩
    cases k with
    | false => rw [if_neg Bool.false_ne_true]; exact q3 Φ3 H3 _ .refl r3 rfl
    | true =>
      rw [if_pos rfl]
      exact ⟨ρ, h3, Φ3, r3, ((rs.ext e1).ext e2).ext e3, okO.bind q3 fun p4 h4 Φ4 H4 u e4 r4 ru q4 => ⟨p2, p4, h4, Φ4, r4, (rq.ext e3).ext e4, ru, q4.opt⟩⟩
  | _ => exact q3.elim
theorem me_chain {op op' : CmpOp} (ho : OpM X (compareOp op) g) (ho' : OpM X (compareOp op') g') (ha : PE X a (tmE (gr X) W ma)) (hb : PE X b (tmE (gr X) W mb)) (hc : PE X c (tmE (gr X) W mc))
    (hm : lastMarks [op, op'] [b, c] = false := by with_unfolding_all rfl) : PE X (.Compare a [op, op'] [b, c] pos) (tmE (gr X) W (mCh g g' ma mb mc)) :=
  PE_imp (pe_chain ho ho' ha hb hc hm) fun _ _ _ q => chain_ok q

/-! ### one-place -/
abbrev UnF := PV → PH → Option (PV × PH)
def rUn (G : Gr) (g : UnF) : V → Hp → VK → Prop := fun x H Q => ∃ p h Φ, Hr G Φ H h ∧ R G Φ H p x ∧ okP (R G) G Q Φ H (g p h)
def mUn (g : UnF) (a : EM) : EM := fun ρ h => (a ρ h).bind fun p h1 => opt (g p h1)
theorem un_ok {G : Gr} {σ : Sl} {H : Hp} {Q : VK} {g : UnF} (q : tmE G W (mUn g ma) σ H Q) : tUn (rUn G g) (tmE G W ma) σ H Q := by
  obtain ⟨ρ, h, Φ, r, rs, q⟩ := q
  exact ⟨ρ, h, Φ, r, rs, okO.bind q fun p h1 Φ1 H1 x e1 r1 rp q1 => ⟨p, h1, Φ1, r1, rp, q1.opt⟩⟩
theorem me_un {op : UnaryOp} {g : UnF} (ho : UnR X (unaryOp op) (rUn (gr X) g)) (ha : PE X a (tmE (gr X) W ma)) : PE X (.UnaryOp op a pos) (tmE (gr X) W (mUn g ma)) :=
  PE_imp (pe_un ho ha) fun _ _ _ q => un_ok q

/-! ### and, or, not, if: values that are bools -/
def asB (p : PV) (h : PH) : Out Bool := match p with
  | .bl b => .ok b h
  | _ => .bad
def mAnd (a b : EM) : EM := fun ρ h => (a ρ h).bind fun p h1 => (asB p h1).bind fun k h2 => if k then b ρ h2 else .ok (.bl false) h2
def mOr (a b : EM) : EM := fun ρ h => (a ρ h).bind fun p h1 => (asB p h1).bind fun k h2 => if k then .ok (.bl true) h2 else b ρ h2
def mNot (a : EM) : EM := fun ρ h => (a ρ h).bind fun p h1 => (asB p h1).bind fun k h2 => .ok (.bl (!k)) h2
abbrev TMm := Ro → PH → Out Bool
def mIf (t : TMm) (a b : EM) : EM := fun ρ h => (t ρ h).bind fun k h1 => if k then a ρ h1 else b ρ h1
theorem me_one {op} (ha : PE X a (tmE (gr X) W ma)) : PE X (.BoolOp op [a] pos) (tmE (gr X) W ma) := pe_one ha
theorem okAsB {α β : Type} {rel : Rel α β} {G : Gr} {Q : β → Hp → Prop} {σ : Sl} {Φ : Fo} {H : Hp} {p : PV} {x : V} {h : PH} {k : Bool → PH → Out α} (rp : R G Φ H p x) (q : okO rel G W Q σ Φ H ((asB p h).bind k)) :
    ∃ b, x = .bl b ∧ okO rel G W Q σ Φ H (k b h) := by
  cases p with
  | bl b => exact ⟨b, rp, q⟩
  | _ => exact q.elim
theorem me_and {rest : List Expr} (ha : PE X a (tmE (gr X) W ma)) (hb : PE X (.BoolOp .And (b :: rest) pos) (tmE (gr X) W mb)) : PE X (.BoolOp .And (a :: b :: rest) pos) (tmE (gr X) W (mAnd ma mb)) := by
  refine PE_imp (pe_and ha hb) fun σ H Q ⟨ρ, h, Φ, r, rs, q⟩ => ⟨ρ, h, Φ, r, rs, okO.bind q fun p h1 Φ1 H1 x e1 r1 rp q1 => ?_⟩
  obtain ⟨k, rfl, q2⟩ := okAsB rp q1
  refine ⟨k, rfl, ?_⟩
  cases k with
  | false => rw [if_neg Bool.false_ne_true]; exact q2 Φ1 H1 _ .refl r1 rfl
  | true => rw [if_pos rfl]; exact ⟨ρ, h1, Φ1, r1, rs.ext e1, q2⟩
theorem me_or {rest : List Expr} (ha : PE X a (tmE (gr X) W ma)) (hb : PE X (.BoolOp .Or (b :: rest) pos) (tmE (gr X) W mb)) : PE X (.BoolOp .Or (a :: b :: rest) pos) (tmE (gr X) W (mOr ma mb)) := by
  refine PE_imp (pe_or ha hb) fun σ H Q ⟨ρ, h, Φ, r, rs, q⟩ => ⟨ρ, h, Φ, r, rs, okO.bind q fun p h1 Φ1 H1 x e1 r1 rp q1 => ?_⟩
  obtain ⟨k, rfl, q2⟩ := okAsB rp q1
  refine ⟨k, rfl, ?_⟩
  cases k with
  | true => rw [if_pos rfl]; exact q2 Φ1 H1 _ .refl r1 rfl
  | false => rw [if_neg Bool.false_ne_true]; exact ⟨ρ, h1, Φ1, r1, rs.ext e1, q2⟩
theorem me_not (ha : PE X a (tmE (gr X) W ma)) : PE X (.UnaryOp .Not a pos) (tmE (gr X) W (mNot ma)) := by
  refine PE_imp (pe_not ha) fun σ H Q ⟨ρ, h, Φ, r, rs, q⟩ => ⟨ρ, h, Φ, r, rs, okO.bind q fun p h1 Φ1 H1 x e1 r1 rp q1 => ?_⟩
  obtain ⟨k, rfl, q2⟩ := okAsB rp q1
  exact ⟨k, rfl, q2 Φ1 H1 _ .refl r1 rfl⟩
theorem me_if {mt : TMm} (hc : PT X c (tmT (gr X) W mt)) (ha : PE X a (tmE (gr X) W ma)) (hb : PE X b (tmE (gr X) W mb)) : PE X (.IfExp c a b pos) (tmE (gr X) W (mIf mt ma mb)) := by
  refine PE_imp (pe_ifExp hc ha hb) fun σ H Q ⟨ρ, h, Φ, r, rs, q⟩ => ⟨ρ, h, Φ, r, rs, okO.bind q fun k h1 Φ1 H1 x e1 r1 rp q1 => ?_⟩
  have rp' : k = x := rp
  subst rp'
  cases k with
  | true => rw [if_pos rfl]; exact ⟨ρ, h1, Φ1, r1, rs.ext e1, q1⟩
  | false => rw [if_neg Bool.false_ne_true]; exact ⟨ρ, h1, Φ1, r1, rs.ext e1, q1⟩

/-! ### tests -/
def tB_ (a : EM) : TMm := fun ρ h => (a ρ h).bind fun p h1 => asB p h1
def tAnd_ (a b : TMm) : TMm := fun ρ h => (a ρ h).bind fun k h1 => if k then b ρ h1 else .ok false h1
def tOr_ (a b : TMm) : TMm := fun ρ h => (a ρ h).bind fun k h1 => if k then .ok true h1 else b ρ h1
def tNot_ (a : TMm) : TMm := fun ρ h => (a ρ h).bind fun k h1 => .ok (!k) h1
theorem asB_ok {G : Gr} {Q : Bool → Hp → Prop} {σ : Sl} {Φ : Fo} {H : Hp} {p : PV} {x : V} {h : PH} (r : Hr G Φ H h) (rp : R G Φ H p x) (q : okO rB G W Q σ Φ H (asB p h)) : ∃ b, x = .bl b ∧ Q b H := by
  cases p with
  | bl b => exact ⟨b, rp, q Φ H b .refl r rfl⟩
  | _ => exact q.elim
/-- an expression that gives a bool: a call, a name, a subscript .. -/
theorem mt_val {e : Expr} (h : PE X e (tmE (gr X) W ma)) (he : ∀ whole, isTrue e X.env whole = (do let v ← whole; standAt e.pos; holding [v] (truthy v)) := by intro _; rfl) : PT X e (tmT (gr X) W (tB_ ma)) :=
  PT_imp (pt_val h he) fun σ H Q ⟨ρ, h, Φ, r, rs, q⟩ => ⟨ρ, h, Φ, r, rs, okO.bind q fun p h1 Φ1 H1 x e1 r1 rp q1 => asB_ok r1 rp q1⟩
theorem mt_cmp {op : CmpOp} (ho : OpM X (compareOp op) g) (ha : PE X a (tmE (gr X) W ma)) (hb : PE X b (tmE (gr X) W mb)) (hm : behindInMarks op b = false := by first | exact nomark _ | rfl) :
    PT X (.Compare a [op] [b] pos) (tmT (gr X) W (tB_ (mBin g ma mb))) := by
  refine PT_imp (pt_cmpR ho ha hb hm) fun σ H Q ⟨ρ, h, Φ, r, rs, q⟩ => bin_ok ⟨ρ, h, Φ, r, rs, okO.bind q fun p h1 Φ1 H1 x e1 r1 rp q1 => asB_ok r1 rp q1⟩
theorem mt_chain {op op' : CmpOp} (ho : OpM X (compareOp op) g) (ho' : OpM X (compareOp op') g') (ha : PE X a (tmE (gr X) W ma)) (hb : PE X b (tmE (gr X) W mb)) (hc : PE X c (tmE (gr X) W mc))
    (hm : lastMarks [op, op'] [b, c] = false := by with_unfolding_all rfl) : PT X (.Compare a [op, op'] [b, c] pos) (tmT (gr X) W (tB_ (mCh g g' ma mb mc))) := by
  refine PT_imp (pt_chain ho ho' ha hb hc hm) fun σ H Q ⟨ρ, h, Φ, r, rs, q⟩ => chain_ok ⟨ρ, h, Φ, r, rs, okO.bind q fun p h1 Φ1 H1 x e1 r1 rp q1 => asB_ok r1 rp q1⟩
variable {ta tb : TMm}
theorem mt_not (ha : PT X a (tmT (gr X) W ta)) : PT X (.UnaryOp .Not a pos) (tmT (gr X) W (tNot_ ta)) := by
  refine PT_imp (pt_not ha) fun σ H Q ⟨ρ, h, Φ, r, rs, q⟩ => ⟨ρ, h, Φ, r, rs, okO.bind q fun k h1 Φ1 H1 x e1 r1 rp q1 => ?_⟩
  have rp' : k = x := rp
  subst rp'
  exact q1 Φ1 H1 _ .refl r1 rfl
theorem mw_and1 (ha : PT X a (tmT (gr X) W ta)) : PW X (.BoolOp .And [a] pos) (tmT (gr X) W ta) := pw_and1 ha
theorem mw_or1 (ha : PT X a (tmT (gr X) W ta)) : PW X (.BoolOp .Or [a] pos) (tmT (gr X) W ta) := pw_or1 ha
theorem mw_and {rest : List Expr} (ha : PT X a (tmT (gr X) W ta)) (hb : PW X (.BoolOp .And (b :: rest) pos) (tmT (gr X) W tb)) : PW X (.BoolOp .And (a :: b :: rest) pos) (tmT (gr X) W (tAnd_ ta tb)) := by
  refine PW_imp (pw_and ha hb) fun σ H Q ⟨ρ, h, Φ, r, rs, q⟩ => ⟨ρ, h, Φ, r, rs, okO.bind q fun k h1 Φ1 H1 x e1 r1 rp q1 => ?_⟩
  have rp' : k = x := rp
  subst rp'
  cases k with
  | true => rw [if_pos rfl]; exact ⟨ρ, h1, Φ1, r1, rs.ext e1, q1⟩
  | false => rw [if_neg Bool.false_ne_true]; exact q1 Φ1 H1 _ .refl r1 rfl
theorem mw_or {rest : List Expr} (ha : PT X a (tmT (gr X) W ta)) (hb : PW X (.BoolOp .Or (b :: rest) pos) (tmT (gr X) W tb)) : PW X (.BoolOp .Or (a :: b :: rest) pos) (tmT (gr X) W (tOr_ ta tb)) := by
  refine PW_imp (pw_or ha hb) fun σ H Q ⟨ρ, h, Φ, r, rs, q⟩ => ⟨ρ, h, Φ, r, rs, okO.bind q fun k h1 Φ1 H1 x e1 r1 rp q1 => ?_⟩
  have rp' : k = x := rp
  subst rp'
  cases k with
  | false => rw [if_neg Bool.false_ne_true]; exact ⟨ρ, h1, Φ1, r1, rs.ext e1, q1⟩
  | true => rw [if_pos rfl]; exact q1 Φ1 H1 _ .refl r1 rfl
theorem mt_w (h : PW X a (tmT (gr X) W ta)) : PT X a (tmT (gr X) W ta) := h.pt

/-! ### arguments, calls -/
abbrev AM := Ro → PH → Out (List PV)
def mNil : AM := fun _ h => .ok [] h
def mCons (a : EM) (r : AM) : AM := fun ρ h => (a ρ h).bind fun p h1 => (r ρ h1).bind fun ps h2 => .ok (p :: ps) h2
variable {es : List Expr} {mr : AM}
theorem ma_nil : PA X [] (tmA (gr X) W mNil) := PA_imp pa_nil fun σ H Q ⟨ρ, h, Φ, r, rs, q⟩ => q Φ H [] .refl r rfl
theorem ma_cons (ha : PE X a (tmE (gr X) W ma)) (hr : PA X es (tmA (gr X) W mr)) (hs : starEach (a :: es) X.env = (false, eval a X.env) :: starEach es X.env := by rfl) : PA X (a :: es) (tmA (gr X) W (mCons ma mr)) := by
  refine PA_imp (pa_cons ha hr hs) fun σ H Q ⟨ρ, h, Φ, r, rs, q⟩ => ⟨ρ, h, Φ, r, rs, okO.bind q fun p h1 Φ1 H1 x e1 r1 rp q1 => ⟨ρ, h1, Φ1, r1, rs.ext e1, okO.bind q1 fun ps h2 Φ2 H2 xs e2 r2 rq q2 => ?_⟩⟩
  exact q2 Φ2 H2 (x :: xs) .refl r2 ⟨x, xs, rfl, rp.ext e2, rq⟩
/-- a built-in's work on values -/
abbrev CF := List PV → PH → Option (PV × PH)
def rCall (G : Gr) (g : CF) : List V → Hp → VK → Prop := fun xs H Q => ∃ ps h Φ, Hr G Φ H h ∧ Rs G Φ H ps xs ∧ okP (R G) G Q Φ H (g ps h)
abbrev CallM (X : Cx) (f : Value) (g : CF) : Prop := CallR X f (rCall (gr X) g)
theorem CallM.of {X : Cx} {f : Value} {g : CF} {r : List V → Hp → VK → Prop} (ho : CallR X f r)
    (hg : ∀ xs H Q ps h Φ, Hr (gr X) Φ H h → Rs (gr X) Φ H ps xs → okP (R (gr X)) (gr X) Q Φ H (g ps h) → r xs H Q) : CallM X f g := by
  intro pins s σ H xs us Q I rx ⟨ps, h, Φ, a, b, c⟩
  exact ho pins s σ H xs us Q I rx (hg xs H Q ps h Φ a b c)
def orC (g g' : CF) : CF := fun p h => match g p h with
  | some r => some r
  | none => g' p h
theorem CallM.or {X : Cx} {f : Value} {g g' : CF} (a : CallM X f g) (b : CallM X f g') : CallM X f (orC g g') := by
  intro pins s σ H xs us Q I rx ⟨p, h, Φ, r, r1, k⟩
  unfold orC at k
  split at k
  · rename_i z e
    exact a pins s σ H xs us Q I rx ⟨p, h, Φ, r, r1, by rw [e]; exact k⟩
  · exact b pins s σ H xs us Q I rx ⟨p, h, Φ, r, r1, k⟩
def mCallB (g : CF) (as : AM) : EM := fun ρ h => (as ρ h).bind fun ps h1 => opt (g ps h1)
theorem callB_ok {G : Gr} {σ : Sl} {H : Hp} {Q : VK} {g : CF} (q : tmE G W (mCallB g mr) σ H Q) : tCB (rCall G g) (tmA G W mr) σ H Q := by
  obtain ⟨ρ, h, Φ, r, rs, q⟩ := q
  exact ⟨ρ, h, Φ, r, rs, okO.bind q fun ps h1 Φ1 H1 xs e1 r1 rp q1 => ⟨ps, h1, Φ1, r1, rp, q1.opt⟩⟩
variable {x : Str} {p : Pos} {e : Expr} {id T : String} {gc : CF}
theorem me_callB (hc : CallM X (.builtin id) gc) (hm : X.mg x = none) (hv : bootBuiltins x = some (.builtin id)) (ha : PA X (e :: es) (tmA (gr X) W mr)) (hg : Gl X x := by rfl) (hn : x ≠ "__name__" := by decide) (hdb : (x == ("__debug__" : Str)) = false := by decide)
    (he : starEach (e :: es) X.env = (false, eval e X.env) :: starEach es X.env := by rfl) (hpl : (backTo pos (starEach es X.env)).any (·.1) = false := by rfl) : PE X (.Call (.Name x p) (e :: es) [] pos) (tmE (gr X) W (mCallB gc mr)) :=
  PE_imp (pe_callB hc hg hm hv ha hn hdb he hpl) fun _ _ _ q => callB_ok q
theorem me_callTy (hc : CallM X (.type T) gc) (hm : X.mg x = none) (hv : bootBuiltins x = some (.type T)) (ha : PA X (e :: es) (tmA (gr X) W mr)) (hg : Gl X x := by rfl) (hn : x ≠ "__name__" := by decide) (hdb : (x == ("__debug__" : Str)) = false := by decide)
    (he : starEach (e :: es) X.env = (false, eval e X.env) :: starEach es X.env := by rfl) (hpl : (backTo pos (starEach es X.env)).any (·.1) = false := by rfl) : PE X (.Call (.Name x p) (e :: es) [] pos) (tmE (gr X) W (mCallB gc mr)) :=
  PE_imp (pe_callTy hc hg hm hv ha hn hdb he hpl) fun _ _ _ q => callB_ok q

/-! ### own defs -/
/-- a def's meaning -/
abbrev DF := List PV → PH → Out PV
def spM (G : Gr) (n : Nat) (g : DF) : Sp := fun vs H Q E => vs.length = n ∧ ∃ ps h Φ, Hr G Φ H h ∧ Rs G Φ H ps vs ∧ okO (R G) G (fun c d _ H' => E c d H') Q [] Φ H (g ps h)
abbrev FnM (P : Program) (w : World) (K : PySem.W.Frag) (mg : Str → Option Value) (base : Heap) (k : Nat) (f : Addr) (fd : FuncData) (ps : List Str) (g : DF) : Prop :=
  FnOk P w K mg base (L2.CX P w) k f fd ps (spM ⟨K, mg⟩ ps.length g)
def mCall (g : DF) (as : AM) : EM := fun ρ h => (as ρ h).bind fun ps h1 => g ps h1
theorem okO.slots {α β : Type} {rel : Rel α β} {G : Gr} {Q : β → Hp → Prop} {σ : Sl} {Φ : Fo} {H : Hp} {o : Out α} (h : okO rel G W Q σ Φ H o) : okO rel G (fun c d _ H' => W c d σ H') Q [] Φ H o := by
  cases o with
  | ok a h' => exact h
  | ex c fs xs h' => exact h
  | bad => exact h
theorem call_ok {G : Gr} {σ : Sl} {H : Hp} {Q : VK} {g : DF} {n : Nat} (hn : ∀ ps h, g ps h ≠ .bad → ps.length = n) (q : tmE G W (mCall g mr) σ H Q) : tCallS (spM G n g) (WE W) (tmA G W mr) σ H Q := by
  obtain ⟨ρ, h, Φ, r, rs, q⟩ := q
  refine ⟨ρ, h, Φ, r, rs, okO.bind q fun ps h1 Φ1 H1 xs e1 r1 rp q1 => ⟨?_, ps, h1, Φ1, r1, rp, q1.slots⟩⟩
  rw [← rp.length]
  exact hn ps h1 fun z => by rw [z] at q1; exact q1
variable {k : Nat} {f : Addr} {fd : FuncData} {ps : List Str} {gd : DF}
theorem me_call (F : FnM X.prog X.w X.K X.mg X.base k f fd ps gd) (hn : ∀ qs h, gd qs h ≠ .bad → qs.length = ps.length) (hr : Room k X.A) (hm : X.mg x = some (.ref f)) (hk : PySem.W.keepIn X.K (.ref f) = true) (hb : Binds X.K fd ps []) (tk : Takes X W)
    (ha : PA X (e :: es) (tmA (gr X) W mr)) (hg : Gl X x := by rfl) (hdb : (x == ("__debug__" : Str)) = false := by decide) (he : starEach (e :: es) X.env = (false, eval e X.env) :: starEach es X.env := by rfl) (hpl : (backTo pos (starEach es X.env)).any (·.1) = false := by rfl) :
    PE X (.Call (.Name x p) (e :: es) [] pos) (tmE (gr X) W (mCall gd mr)) :=
  PE_imp (pe_callS F hr hg hm hk hb (fun σ => passAt tk σ) ha hdb he hpl) fun _ _ _ q => call_ok hn q
end
end Ev
/-! Ev3: the built-ins' work on values by content. -/
namespace Ev
open PySem PySem.Spec PyProof.Rows L2

/-! ### reading sequences -/
def asL (h : PH) : PV → Option (List PV)
  | .lst xs => some xs
  | .rol xs => some xs
  | .ref n => match h[n]? with
    | some (.lst xs) => some xs
    | _ => none
  | _ => none
/-- .. that the hand layer tracks -/
def asM (h : PH) : PV → Option (List PV)
  | .lst xs => some xs
  | .ref n => match h[n]? with
    | some (.lst xs) => some xs
    | _ => none
  | _ => none
def asT : PV → Option (List PV)
  | .tup xs => some xs
  | _ => none
section
variable {G : Gr} {Φ : Fo} {H : Hp} {h : PH} {p : PV} {v : V} {xs : List PV}
theorem asM_ok (r : Hr G Φ H h) (rp : R G Φ H p v) (e : asM h p = some xs) : ∃ a vs, v = .ref a ∧ H a = some (.lst vs) ∧ Rs G Φ H xs vs := by
  cases p with
  | lst ys =>
    cases e
    obtain ⟨a, vs, h1, h2, h3, h4⟩ := rp
    exact ⟨a, vs, h1, h3, h4⟩
  | ref n =>
    unfold asM at e
    cases q : h[n]? with
    | none => simp [q] at e
    | some o =>
      cases o with
      | lst ys =>
        simp [q] at e
        subst e
        obtain ⟨a, h1, vs, h2, h3⟩ := r.ob n _ q
        obtain ⟨b, h4, h5⟩ := rp
        rw [h1] at h4; cases h4
        exact ⟨a, vs, h5, h2, h3⟩
      | _ => simp [q] at e
  | _ => cases e
theorem asL_ok (r : Hr G Φ H h) (rp : R G Φ H p v) (e : asL h p = some xs) : ∃ a vs, v = .ref a ∧ SqL G.K H a vs ∧ Rs G Φ H xs vs := by
  cases p with
  | rol ys =>
    cases e
    obtain ⟨a, vs, h1, h2, h3⟩ := rp
    exact ⟨a, vs, h1, h2.imp (fun q => q.2) (fun q => q), h3⟩
  | lst ys =>
    obtain ⟨a, vs, h1, h2, h3⟩ := asM_ok r rp (show asM h (.lst ys) = some xs from e)
    exact ⟨a, vs, h1, .inl (.inl h2), h3⟩
  | ref n =>
    obtain ⟨a, vs, h1, h2, h3⟩ := asM_ok r rp (show asM h (.ref n) = some xs from e)
    exact ⟨a, vs, h1, .inl (.inl h2), h3⟩
  | _ => cases e
theorem asT_ok (rp : R G Φ H p v) (e : asT p = some xs) : ∃ a vs, v = .ref a ∧ SqT G.K H a vs ∧ Rs G Φ H xs vs := by
  cases p with
  | tup ys =>
    cases e
    obtain ⟨a, vs, h1, h2, h3⟩ := rp
    exact ⟨a, vs, h1, h2.imp (fun q => q.2) (fun q => q), h3⟩
  | _ => cases e
end
/-- the flat values, as the hand layer has them -/
def toV : PV → Option V
  | .non => some .non
  | .bl b => some (.bl b)
  | .int i => some (.int i)
  | .str x => some (.str x)
  | _ => none
def toVs : List PV → Option (List V)
  | [] => some []
  | p :: ps => match toV p, toVs ps with
    | some v, some vs => some (v :: vs)
    | _, _ => none
section
variable {G : Gr} {Φ : Fo} {H : Hp}
theorem toV_ok {p : PV} {v u : V} (rp : R G Φ H p v) (e : toV p = some u) : v = u ∧ flatV u = true := by
  cases p <;> first
    | (cases e; exact ⟨rp, rfl⟩)
    | cases e
theorem toVs_ok : ∀ {ps : List PV} {vs us : List V}, Rs G Φ H ps vs → toVs ps = some us → vs = us ∧ us.all flatV = true
  | [], _, _, r, e => by cases e; exact ⟨r, rfl⟩
  | p :: ps, _, _, r, e => by
    obtain ⟨v, vr, rfl, r1, r2⟩ := r
    unfold toVs at e
    split at e
    · rename_i u us h1 h2
      cases e
      obtain ⟨a, b⟩ := toV_ok r1 h1
      obtain ⟨c, d⟩ := toVs_ok r2 h2
      exact ⟨by rw [a, c], by rw [List.all_cons, b, d]; rfl⟩
    · cases e
end
/-- values as plain data -/
def datL (f : PV → Option PyData) : List PV → Option (List PyData)
  | [] => some []
  | p :: ps => match f p, datL f ps with
    | some d, some ds => some (d :: ds)
    | _, _ => none
mutual
def dat : PV → Option PyData
  | .non => some .none
  | .bl b => some (.bool b)
  | .int i => some (.int i)
  | .str x => some (.str x)
  | .tup xs => (dats xs).map .tuple
  | .lst xs => (dats xs).map .list
  | .rol xs => (dats xs).map .list
  | _ => none
def dats : List PV → Option (List PyData)
  | [] => some []
  | p :: ps => match dat p, dats ps with
    | some d, some ds => some (d :: ds)
    | _, _ => none
end
def datH (h : PH) : PV → Option PyData
  | .ref n => match h[n]? with
    | some (.lst xs) => (dats xs).map .list
    | _ => none
  | p => dat p
section
variable {G : Gr} {Φ : Fo} {H : Hp}
mutual
theorem dat_ok : ∀ {p : PV} {v : V} {d : PyData}, R G Φ H p v → dat p = some d → Dp G.K H v d
  | .non, _, _, r, e => by cases e; rw [show _ = V.non from r]; exact .non
  | .bl b, _, _, r, e => by cases e; rw [show _ = V.bl b from r]; exact .bl b
  | .int i, _, _, r, e => by cases e; rw [show _ = V.int i from r]; exact .int i
  | .str i, _, _, r, e => by cases e; rw [show _ = V.str i from r]; exact .str i
  | .tup xs, _, d, r, e => by
    obtain ⟨a, vs, rfl, h2, h3⟩ := r
    cases q : dats xs with
    | none => simp [dat, q] at e
    | some ds =>
      simp [dat, q] at e
      subst e
      exact .tup (h2.imp (fun q => q.2) (fun q => q)) (dats_ok h3 q)
  | .lst xs, _, d, r, e => by
    obtain ⟨a, vs, rfl, h1, h2, h3⟩ := r
    cases q : dats xs with
    | none => simp [dat, q] at e
    | some ds =>
      simp [dat, q] at e
      subst e
      exact .lst (.inl (.inl h2)) (dats_ok h3 q)
  | .rol xs, _, d, r, e => by
    obtain ⟨a, vs, rfl, h2, h3⟩ := r
    cases q : dats xs with
    | none => simp [dat, q] at e
    | some ds =>
      simp [dat, q] at e
      subst e
      exact .lst (h2.imp (fun q => q.2) (fun q => q)) (dats_ok h3 q)
  | .ty _, _, _, _, e => by simp [dat] at e
  | .gl _, _, _, _, e => by simp [dat] at e
  | .ref _, _, _, _, e => by simp [dat] at e
  | .dct _ _, _, _, _, e => by simp [dat] at e
  | .ins _ _ _, _, _, _, e => by simp [dat] at e
theorem dats_ok : ∀ {p : List PV} {v : List V} {d : List PyData}, Rs G Φ H p v → dats p = some d → DpAll G.K H v d
  | [], _, _, r, e => by
    simp [dats] at e
    subst e
    rw [show _ = [] from r]; exact .nil
  | p :: ps, _, _, r, e => by
    obtain ⟨v, vr, rfl, r1, r2⟩ := r
    cases q1 : dat p with
    | none => simp [dats, q1] at e
    | some d =>
      cases q2 : dats ps with
      | none => simp [dats, q1, q2] at e
      | some ds =>
        simp [dats, q1, q2] at e
        subst e
        exact .cons (dat_ok r1 q1) (dats_ok r2 q2)
end
theorem datH_ok {h : PH} {p : PV} {v : V} {d : PyData} (r : Hr G Φ H h) (rp : R G Φ H p v) (e : datH h p = some d) : Dp G.K H v d := by
  cases p with
  | ref n =>
    unfold datH at e
    cases q : h[n]? with
    | none => simp [q] at e
    | some o =>
      cases o with
      | lst xs =>
        cases q2 : dats xs with
        | none => simp [q, q2] at e
        | some ds =>
          simp [q, q2] at e
          subst e
          obtain ⟨a, vs, h1, h2, h3⟩ := asM_ok r rp (show asM h (.ref n) = some xs by unfold asM; simp [q])
          subst h1
          exact .lst (.inl (.inl h2)) (dats_ok h3 q2)
      | _ => simp [q] at e
  | _ => exact dat_ok rp e
end

/-! ### ints -/
def fI (g : Int → Int → PV) : OpF := fun p q h => match p, q with
  | .int i, .int j => some (g i j, h)
  | _, _ => none
def fIc (c : Int → Int → Bool) (g : Int → Int → PV) : OpF := fun p q h => match p, q with
  | .int i, .int j => if c i j then some (g i j, h) else none
  | _, _ => none
section
variable {G : Gr} {Φ : Fo} {H : Hp} {h : PH} {p q : PV} {x y : V} {Q : VK}
theorem fI_ok {g : Int → Int → PV} (r : Hr G Φ H h) (rp : R G Φ H p x) (rq : R G Φ H q y) (k : okP (R G) G Q Φ H (fI g p q h)) : ∃ i j, x = .int i ∧ y = .int j ∧ okP (R G) G Q Φ H (some (g i j, h)) := by
  unfold fI at k
  split at k
  · rename_i i j
    exact ⟨i, j, rp, rq, k⟩
  · exact k.elim
theorem fIc_ok {c : Int → Int → Bool} {g : Int → Int → PV} (r : Hr G Φ H h) (rp : R G Φ H p x) (rq : R G Φ H q y) (k : okP (R G) G Q Φ H (fIc c g p q h)) :
    ∃ i j, x = .int i ∧ y = .int j ∧ c i j = true ∧ okP (R G) G Q Φ H (some (g i j, h)) := by
  unfold fIc at k
  split at k
  · rename_i i j
    split at k
    · rename_i hc
      exact ⟨i, j, rp, rq, hc, k⟩
    · exact k.elim
  · exact k.elim
end
section
variable {X : Cx}
theorem om_int {f : Value → Value → Sem Value} {g : Int → Int → Int} (ho : OpR X f (rI0 fun i j => .int (g i j))) : OpM X f (fI fun i j => .int (g i j)) := OpM.of ho fun x y H Q p q h Φ r rp rq k => by
  obtain ⟨i, j, h1, h2, k⟩ := fI_ok r rp rq k
  exact ⟨i, j, h1, h2, k Φ H _ .refl r rfl⟩
theorem om_bl {f : Value → Value → Sem Value} {g : Int → Int → Bool} (ho : OpR X f (rI0 fun i j => .bl (g i j))) : OpM X f (fI fun i j => .bl (g i j)) := OpM.of ho fun x y H Q p q h Φ r rp rq k => by
  obtain ⟨i, j, h1, h2, k⟩ := fI_ok r rp rq k
  exact ⟨i, j, h1, h2, k Φ H _ .refl r rfl⟩
theorem om_intc {f : Value → Value → Sem Value} {C : Int → Int → Prop} {c : Int → Int → Bool} {g : Int → Int → Int} (ho : OpR X f (rI C fun i j => .int (g i j))) (hc : ∀ i j, c i j = true → C i j) : OpM X f (fIc c fun i j => .int (g i j)) :=
  OpM.of ho fun x y H Q p q h Φ r rp rq k => by
    obtain ⟨i, j, h1, h2, h3, k⟩ := fIc_ok r rp rq k
    exact ⟨i, j, h1, h2, hc i j h3, k Φ H _ .refl r rfl⟩
def cMul (i j : Int) : Bool := decide ((-(2 ^ 64) < i ∧ i < 2 ^ 64) ∨ (-(2 ^ 64) < j ∧ j < 2 ^ 64))
def cPos (_ j : Int) : Bool := decide (0 < j)
def cDiv (_ j : Int) : Bool := decide (0 < j ∧ j < 1073741824)
def cPow (i j : Int) : Bool := decide (0 ≤ j ∧ j ≤ 1000000 ∧ i.natAbs < 2 ^ 64)
abbrev fAddI : OpF := fI fun i j => .int (i + j)
abbrev fSubI : OpF := fI fun i j => .int (i - j)
abbrev fMulI : OpF := fIc cMul fun i j => .int (i * j)
abbrev fModI : OpF := fIc cPos fun i j => .int (i % j)
abbrev fDivI : OpF := fIc cDiv fun i j => .int (i / j)
abbrev fPowI : OpF := fIc cPow fun i j => .int (i ^ j.toNat)
abbrev fLt : OpF := fI fun i j => .bl (decide (i < j))
abbrev fLe : OpF := fI fun i j => .bl (decide (i ≤ j))
abbrev fGt : OpF := fI fun i j => .bl (decide (j < i))
abbrev fGe : OpF := fI fun i j => .bl (decide (j ≤ i))
theorem om_addI : OpM X (binaryOp .Add) fAddI := om_int op_add
theorem om_subI : OpM X (binaryOp .Sub) fSubI := om_int op_sub
theorem om_mulI : OpM X (binaryOp .Mult) fMulI := om_intc op_mul fun i j h => of_decide_eq_true (p := (-(2 ^ 64) < i ∧ i < 2 ^ 64) ∨ (-(2 ^ 64) < j ∧ j < 2 ^ 64)) h
theorem om_mod : OpM X (binaryOp .Mod) fModI := om_intc op_mod fun _ _ h => of_decide_eq_true h
theorem om_div : OpM X (binaryOp .FloorDiv) fDivI := om_intc op_fdiv fun i j h => of_decide_eq_true (p := 0 < j ∧ j < 1073741824) h
theorem om_pow : OpM X (binaryOp .Pow) fPowI := om_intc op_pow fun i j h => of_decide_eq_true (p := 0 ≤ j ∧ j ≤ 1000000 ∧ i.natAbs < 2 ^ 64) h
theorem om_lt : OpM X (compareOp .Lt) fLt := om_bl op_lt
theorem om_le : OpM X (compareOp .LtE) fLe := om_bl op_le
theorem om_gt : OpM X (compareOp .Gt) fGt := om_bl op_gt
theorem om_ge : OpM X (compareOp .GtE) fGe := om_bl op_ge
theorem om_iadd : OpM X (inplaceOp .Add) fAddI := om_int iop_add
theorem om_isub : OpM X (inplaceOp .Sub) fSubI := om_int iop_sub

/-! ### texts, tuples, lists: +, * -/
def fAddS : OpF := fun p q h => match p, q with
  | .str x, .str y => if x.length + y.length ≤ sizeLine then some (.str (x ++ y), h) else none
  | _, _ => none
theorem om_addS : OpM X (binaryOp .Add) fAddS := OpM.of op_add_str fun x y H Q p q h Φ r rp rq k => by
  unfold fAddS at k
  split at k
  · rename_i i j
    split at k
    · rename_i hc
      exact ⟨i, j, rp, rq, hc, k Φ H _ .refl r rfl⟩
    · exact k.elim
  · exact k.elim
def fAddT : OpF := fun p q h => match asT p, asT q with
  | some xs, some ys => if xs.length + ys.length ≤ sizeLine then some (.tup (xs ++ ys), h) else none
  | _, _ => none
theorem om_addT : OpM X (binaryOp .Add) fAddT := OpM.of op_catA fun x y H Q p q h Φ r rp rq k => by
  unfold fAddT at k
  split at k
  · rename_i xs ys e1 e2
    split at k
    · rename_i hc
      obtain ⟨a, vs, h1, h2, h3⟩ := asT_ok rp e1
      obtain ⟨b, us, g1, g2, g3⟩ := asT_ok rq e2
      have l1 := h3.length
      have l2 := g3.length
      refine ⟨a, b, vs, us, h1, g1, h2, g2, by rw [← l1, ← l2]; exact hc, fun z => ?_, fun _ z => ?_, fun _ _ n hn => ?_⟩
      · subst z
        have e3 : xs = [] := List.eq_nil_of_length_eq_zero l1
        subst e3
        refine k Φ H _ .refl r ?_
        rw [← g1]
        cases q <;> first
          | (cases e2; exact rq)
          | cases e2
      · subst z
        have e3 : ys = [] := List.eq_nil_of_length_eq_zero l2
        subst e3
        refine k Φ H _ .refl r ?_
        rw [← h1, List.append_nil]
        cases p <;> first
          | (cases e1; exact rp)
          | cases e1
      · obtain ⟨e, r', q'⟩ := newT_ok r (h3.append g3) hn
        exact k Φ _ _ e r' q'
    · exact k.elim
  · exact k.elim
def fAddL (b : Bool) : OpF := fun p q h => match asM h p, asM h q with
  | some xs, some ys => if xs.length + ys.length ≤ sizeLine then some (newL b (xs ++ ys) h) else none
  | _, _ => none
theorem om_addL (b : Bool) : OpM X (binaryOp .Add) (fAddL b) := OpM.of op_cat fun x y H Q p q h Φ r rp rq k => by
  unfold fAddL at k
  split at k
  · rename_i xs ys e1 e2
    split at k
    · rename_i hc
      obtain ⟨a, vs, h1, h2, h3⟩ := asM_ok r rp e1
      obtain ⟨c, us, g1, g2, g3⟩ := asM_ok r rq e2
      refine ⟨a, c, vs, us, h1, g1, h2, g2, by rw [← h3.length, ← g3.length]; exact hc, fun n hn => ?_⟩
      obtain ⟨Φ', e, r', q'⟩ := newL_ok (b := b) r (h3.append g3) hn
      exact k Φ' _ _ e r' q'
    · exact k.elim
  · exact k.elim
theorem Rs.rep {G : Gr} {Φ : Fo} {H : Hp} {xs : List PV} {vs : List V} (k : Rs G Φ H xs vs) : ∀ n : Nat, Rs G Φ H (List.replicate n xs).flatten (List.replicate n vs).flatten
  | 0 => rfl
  | n + 1 => by
    rw [List.replicate_succ, List.replicate_succ, List.flatten_cons, List.flatten_cons]
    exact k.append (Rs.rep k n)
def fRepL (b : Bool) : OpF := fun p q h => match asM h p, q with
  | some xs, .int k => if -(2 ^ 63) ≤ k ∧ k < 2 ^ 63 ∧ xs.length * k.toNat ≤ sizeLine then some (newL b (List.replicate k.toNat xs).flatten h) else none
  | _, _ => none
theorem om_repL (b : Bool) : OpM X (binaryOp .Mult) (fRepL b) := OpM.of op_rep fun x y H Q p q h Φ r rp rq k => by
  unfold fRepL at k
  split at k
  · rename_i xs i e1
    split at k
    · rename_i hc
      obtain ⟨a, vs, h1, h2, h3⟩ := asM_ok r rp e1
      refine ⟨a, i, vs, h1, rq, h2, hc.1, hc.2.1, by rw [← h3.length]; exact hc.2.2, fun n hn => ?_⟩
      obtain ⟨Φ', e, r', q'⟩ := newL_ok (b := b) r (h3.rep i.toNat) hn
      exact k Φ' _ _ e r' q'
    · exact k.elim
  · exact k.elim

/-! ### ==, in, is None -/
def fEqS : OpF := fun p q h => match p, q with
  | .str x, .str y => some (.bl (decide (x = y)), h)
  | _, _ => none
def fNeS : OpF := fun p q h => match p, q with
  | .str x, .str y => some (.bl (!decide (x = y)), h)
  | _, _ => none
def fEqD : OpF := fun p q h => match datH h p, datH h q with
  | some d, some e => if SeqAt.shaped d && SeqAt.shaped e then some (.bl (PyData.eqv d e), h) else none
  | _, _ => none
def fNeD : OpF := fun p q h => match datH h p, datH h q with
  | some d, some e => if SeqAt.shaped d && SeqAt.shaped e then some (.bl (!PyData.eqv d e), h) else none
  | _, _ => none
abbrev fEq : OpF := orF fEqS fEqD
abbrev fNe : OpF := orF fNeS fNeD
theorem om_eqS : OpM X (compareOp .Eq) fEqS := OpM.of op_eq fun x y H Q p q h Φ r rp rq k => by
  unfold fEqS at k
  split at k
  · rename_i i j
    rw [show x = .str i from rp, show y = .str j from rq]
    exact ⟨rfl, by rw [show decide (V.str i = V.str j) = decide (i = j) by simp]; exact k Φ H _ .refl r rfl⟩
  · exact k.elim
theorem om_neS : OpM X (compareOp .NotEq) fNeS := OpM.of op_ne fun x y H Q p q h Φ r rp rq k => by
  unfold fNeS at k
  split at k
  · rename_i i j
    rw [show x = .str i from rp, show y = .str j from rq]
    exact ⟨rfl, by rw [show decide (V.str i = V.str j) = decide (i = j) by simp]; exact k Φ H _ .refl r rfl⟩
  · exact k.elim
theorem om_eqD (hu : X.A.units + 64 < cLine) : OpM X (compareOp .Eq) fEqD := OpM.of (op_eqD hu) fun x y H Q p q h Φ r rp rq k => by
  unfold fEqD at k
  split at k
  · rename_i d e e1 e2
    split at k
    · rename_i hc
      rw [Bool.and_eq_true] at hc
      exact ⟨d, e, datH_ok r rp e1, datH_ok r rq e2, hc.1, hc.2, k Φ H _ .refl r rfl⟩
    · exact k.elim
  · exact k.elim
theorem om_neD (hu : X.A.units + 64 < cLine) : OpM X (compareOp .NotEq) fNeD := OpM.of (op_neD hu) fun x y H Q p q h Φ r rp rq k => by
  unfold fNeD at k
  split at k
  · rename_i d e e1 e2
    split at k
    · rename_i hc
      rw [Bool.and_eq_true] at hc
      exact ⟨d, e, datH_ok r rp e1, datH_ok r rq e2, hc.1, hc.2, k Φ H _ .refl r rfl⟩
    · exact k.elim
  · exact k.elim
theorem om_eq (hu : X.A.units + 64 < cLine) : OpM X (compareOp .Eq) fEq := om_eqS.or (om_eqD hu)
theorem om_ne (hu : X.A.units + 64 < cLine) : OpM X (compareOp .NotEq) fNe := om_neS.or (om_neD hu)
/-- one sign in a text -/
def fInS (neg : Bool) : OpF := fun p q h => match p, q with
  | .str x, .str z => match x.cps.toList with
    | [c] => some (.bl (if neg then !decide (c ∈ z.cps.toList) else decide (c ∈ z.cps.toList)), h)
    | _ => none
  | _, _ => none
theorem sign_of {x : Str} {c : Nat} (e : x.cps.toList = [c]) : x = ⟨#[c]⟩ := TL.ext_tl e
theorem om_inS : OpM X (compareOp .In) (fInS false) := OpM.of op_in_sign fun x y H Q p q h Φ r rp rq k => by
  unfold fInS at k
  split at k
  · rename_i i j
    split at k
    · rename_i c e
      refine ⟨c, j, by rw [← sign_of e]; exact rp, rq, k Φ H _ .refl r rfl⟩
    · exact k.elim
  · exact k.elim
theorem om_notInS : OpM X (compareOp .NotIn) (fInS true) := OpM.of op_notIn_sign fun x y H Q p q h Φ r rp rq k => by
  unfold fInS at k
  split at k
  · rename_i i j
    split at k
    · rename_i c e
      refine ⟨c, j, by rw [← sign_of e]; exact rp, rq, k Φ H _ .refl r rfl⟩
    · exact k.elim
  · exact k.elim
def asQ (h : PH) (p : PV) : Option (List PV) := match asL h p with
  | some xs => some xs
  | none => asT p
theorem asQ_ok {G : Gr} {Φ : Fo} {H : Hp} {h : PH} {p : PV} {v : V} {xs : List PV} (r : Hr G Φ H h) (rp : R G Φ H p v) (e : asQ h p = some xs) : ∃ a vs, v = .ref a ∧ (SqL G.K H a vs ∨ SqT G.K H a vs) ∧ Rs G Φ H xs vs := by
  unfold asQ at e
  split at e
  · rename_i ys e1
    cases e
    obtain ⟨a, vs, h1, h2, h3⟩ := asL_ok r rp e1
    exact ⟨a, vs, h1, .inl h2, h3⟩
  · obtain ⟨a, vs, h1, h2, h3⟩ := asT_ok rp e
    exact ⟨a, vs, h1, .inr h2, h3⟩
def fInQ (neg : Bool) : OpF := fun p q h => match toV p, (asQ h q).bind toVs with
  | some v, some vs => some (.bl (if neg then !inV v vs else inV v vs), h)
  | _, _ => none
theorem inQ_ok {G : Gr} {Φ : Fo} {H : Hp} {h : PH} {p q : PV} {x y : V} {Q : VK} {neg : Bool} (r : Hr G Φ H h) (rp : R G Φ H p x) (rq : R G Φ H q y) (k : okP (R G) G Q Φ H (fInQ neg p q h)) : rIn G.K neg x y H Q := by
  unfold fInQ at k
  split at k
  · rename_i v vs e1 e2
    cases e3 : asQ h q with
    | none => rw [e3] at e2; cases e2
    | some xs =>
      rw [e3] at e2
      obtain ⟨a, us, h1, h2, h3⟩ := asQ_ok r rq e3
      obtain ⟨g1, g2⟩ := toV_ok rp e1
      obtain ⟨g3, g4⟩ := toVs_ok h3 e2
      subst g1 g3
      exact ⟨a, us, h1, h2, g2, g4, k Φ H _ .refl r rfl⟩
  · exact k.elim
theorem om_inQ : OpM X (compareOp .In) (fInQ false) := OpM.of op_in_seq fun x y H Q p q h Φ r rp rq k => inQ_ok r rp rq k
theorem om_notInQ : OpM X (compareOp .NotIn) (fInQ true) := OpM.of op_notIn_seq fun x y H Q p q h Φ r rp rq k => inQ_ok r rp rq k
def isN : PV → Bool
  | .non => true
  | _ => false
theorem isN_ok {G : Gr} {Φ : Fo} {H : Hp} {p : PV} {v : V} (r : R G Φ H p v) : decide (v = .non) = isN p := by
  cases p <;> first
    | (rw [show v = _ from r]; rfl)
    | (rw [show v = .ref _ from r.1]; rfl)
    | (obtain ⟨a, h⟩ := r; obtain ⟨h1, h2⟩ := h; rw [h2]; rfl)
    | (obtain ⟨a, vs, h1, _⟩ := r; rw [h1]; rfl)
    | (obtain ⟨a, C, dx, kvs, h1, _⟩ := r; rw [h1]; rfl)
def fIsN : OpF := fun p q h => match q with
  | .non => some (.bl (isN p), h)
  | _ => none
def fNotN : OpF := fun p q h => match q with
  | .non => some (.bl (!isN p), h)
  | _ => none
theorem om_isN : OpM X (compareOp .Is) fIsN := OpM.of op_isN fun x y H Q p q h Φ r rp rq k => by
  unfold fIsN at k
  split at k
  · exact ⟨rq, by rw [isN_ok rp]; exact k Φ H _ .refl r rfl⟩
  · exact k.elim
theorem om_notN : OpM X (compareOp .IsNot) fNotN := OpM.of op_notN fun x y H Q p q h Φ r rp rq k => by
  unfold fNotN at k
  split at k
  · exact ⟨rq, by rw [isN_ok rp]; exact k Φ H _ .refl r rfl⟩
  · exact k.elim
def fNeg : UnF := fun p h => match p with
  | .int i => some (.int (-i), h)
  | _ => none
theorem um_neg : UnR X (unaryOp .USub) (rUn (gr X) fNeg) := by
  intro pins s σ H x v Q I rx ⟨p, h, Φ, r, rp, k⟩
  refine un_neg pins s σ H x v Q I rx ?_
  unfold fNeg at k
  split at k
  · rename_i i
    exact ⟨i, rp, k Φ H _ .refl r rfl⟩
  · exact k.elim

/-! ### subscripts, slices -/
def fIx : OpF := fun p q h => match q with
  | .int i => match asQ h p with
    | some xs => (atI xs i).map fun x => (x, h)
    | none => match p with
      | .str z => if z.length ≤ sizeLine then (atI z.cps.toList i).map fun c => (.str ⟨#[c]⟩, h) else none
      | _ => none
  | _ => none
theorem atI_Rs {G : Gr} {Φ : Fo} {H : Hp} {xs : List PV} {vs : List V} {i : Int} {x : PV} (r : Rs G Φ H xs vs) (e : atI xs i = some x) : ∃ v, atI vs i = some v ∧ R G Φ H x v := by
  unfold atI at e ⊢
  rw [← r.length]
  cases q : ixN xs.length i with
  | none => rw [q] at e; cases e
  | some j =>
    rw [q] at e
    exact Rs.get r e
theorem ixR_of {r r' : R2} (h : IxR X r) (i : ∀ x y H Q, r' x y H Q → r x y H Q) : IxR X r' := fun value slice pins s σ H x y v u Q I rx ry q hs => h value slice pins s σ H x y v u Q I rx ry (i _ _ _ _ q) hs
theorem ix_ok : IxR X (rOp (gr X) fIx) := ixR_of ix_seq fun x y H Q ⟨p, q, h, Φ, r, rp, rq, k⟩ => by
  unfold fIx at k
  split at k
  · rename_i i
    split at k
    · rename_i xs e
      cases e2 : atI xs i with
      | none => rw [e2] at k; exact k.elim
      | some z =>
        rw [e2] at k
        obtain ⟨a, vs, h1, h2, h3⟩ := asQ_ok r rp e
        obtain ⟨v, g1, g2⟩ := atI_Rs h3 e2
        have fin : Q v H := k Φ H v .refl r g2
        rcases h2 with h2 | h2
        · exact .inl ⟨a, vs, i, v, h1, rq, h2, g1, fin⟩
        · exact .inr (.inl ⟨a, vs, i, v, h1, rq, h2, g1, fin⟩)
    · split at k
      · rename_i z _
        split at k
        · rename_i hc
          cases e2 : atI z.cps.toList i with
          | none => rw [e2] at k; exact k.elim
          | some c =>
            rw [e2] at k
            exact .inr (.inr ⟨z, i, c, rp, rq, hc, e2, k Φ H _ .refl r rfl⟩)
        · exact k.elim
      · exact k.elim
  · exact k.elim
theorem me_ix {W : WX} {a b : Expr} {pos : Pos} {ma mb : EM} (ha : PE X a (tmE (gr X) W ma)) (hb : PE X b (tmE (gr X) W mb)) (hs : PlainIx b := by intro _ _; rfl) : PE X (.Subscript a b pos) (tmE (gr X) W (mBin fIx ma mb)) :=
  PE_imp (pe_ix ix_ok ha hb hs) fun _ _ _ q => bin_ok q
def cutG {α : Type} (xs : List α) (lo hi : Option Int) : List α := (xs.drop (HT.sIx xs.length 0 lo)).take (HT.sIx xs.length xs.length hi - HT.sIx xs.length 0 lo)
theorem cut_Rs {G : Gr} {Φ : Fo} {H : Hp} {xs : List PV} {vs : List V} {lo hi : Option Int} (r : Rs G Φ H xs vs) : Rs G Φ H (cutG xs lo hi) (cutV vs lo hi) := by
  unfold cutG cutV
  rw [r.length]
  exact (r.drop _).take _
abbrev SlF := PV → Option Int → Option Int → PH → Option (PV × PH)
def rSl (G : Gr) (g : SlF) : V → Option Int → Option Int → Hp → VK → Prop := fun x lo hi H Q => ∃ p h Φ, Hr G Φ H h ∧ R G Φ H p x ∧ okP (R G) G Q Φ H (g p lo hi h)
def fSl (b : Bool) : SlF := fun p lo hi h => match asL h p with
  | some xs => some (newL b (cutG xs lo hi) h)
  | none => match p with
    | .tup xs => some (.tup (cutG xs lo hi), h)
    | .str z => if z.length ≤ sizeLine then some (.str (cutS z lo hi), h) else none
    | _ => none
theorem cut_whole {α : Type} {xs : List α} {lo hi : Option Int} (h : HT.sIx xs.length 0 lo = 0 ∧ HT.sIx xs.length xs.length hi = xs.length) : cutG xs lo hi = xs := by
  unfold cutG
  rw [h.1, h.2]
  simp
theorem slR_of {r r' : V → Option Int → Option Int → Hp → VK → Prop} (h : SlR X r) (i : ∀ x lo hi H Q, r' x lo hi H Q → r x lo hi H Q) : SlR X r' := fun pins s σ H x v vl vu lo hi sl Q I rx a b c q => h pins s σ H x v vl vu lo hi sl Q I rx a b c (i _ _ _ _ _ q)
theorem sl_ok (b : Bool) : SlR X (rSl (gr X) (fSl b)) := slR_of (sl_list.or (sl_tupA.or sl_str)) fun x lo hi H Q ⟨p, h, Φ, r, rp, k⟩ => by
  unfold fSl at k
  split at k
  · rename_i xs e
    obtain ⟨a, vs, h1, h2, h3⟩ := asL_ok r rp e
    refine .inl ⟨a, vs, h1, h2, fun n hn => ?_⟩
    obtain ⟨Φ', e, r', q'⟩ := newL_ok (b := b) r (cut_Rs (lo := lo) (hi := hi) h3) hn
    exact k Φ' _ _ e r' q'
  · split at k
    · rename_i xs _
      obtain ⟨a, vs, h1, h2, h3⟩ := asT_ok rp (xs := xs) rfl
      refine .inr (.inl ⟨a, vs, h1, h2, fun z => ?_, fun _ n hn => ?_⟩)
      · rw [← h3.length] at z
        rw [cut_whole z] at k
        rw [← h1]
        exact k Φ H x .refl r rp
      · obtain ⟨e, r', q'⟩ := newT_ok r (cut_Rs (lo := lo) (hi := hi) h3) hn
        exact k Φ _ _ e r' q'
    · rename_i z _
      split at k
      · rename_i hc
        exact .inr (.inr ⟨z, rp, hc, k Φ H _ .refl r rfl⟩)
      · exact k.elim
    · exact k.elim
def mPart (a : EM) : Ro → PH → Out (Option Int) := fun ρ h => (a ρ h).bind fun p h1 => match p with
  | .int i => .ok (some i) h1
  | _ => .bad
def mNoPart : Ro → PH → Out (Option Int) := fun _ h => .ok none h
abbrev tmO (G : Gr) (W : WX) (m : Ro → PH → Out (Option Int)) : L2.TO := tm rO G W m
theorem PO_imp {e : Option Expr} {t t' : L2.TO} (h : L2.PO X e t) (i : ∀ σ H Q, t' σ H Q → t σ H Q) : L2.PO X e t' := ⟨fun pins s σ H Q I q => h.run pins s σ H Q I (i _ _ _ q)⟩
theorem mp_none {W : WX} : L2.PO X none (tmO (gr X) W mNoPart) := PO_imp po_none fun σ H Q ⟨ρ, h, Φ, r, rs, q⟩ => q Φ H none .refl r rfl
theorem mp_some {W : WX} {e : Expr} {m : EM} (he : PE X e (tmE (gr X) W m)) : L2.PO X (some e) (tmO (gr X) W (mPart m)) := PO_imp (po_some he) fun σ H Q ⟨ρ, h, Φ, r, rs, q⟩ =>
  ⟨ρ, h, Φ, r, rs, okO.bind q fun p h1 Φ1 H1 x e1 r1 rp q1 => by
    cases p with
    | int i => exact ⟨i, rp, q1 Φ1 H1 _ .refl r1 rfl⟩
    | _ => exact q1.elim⟩
def mSl (g : SlF) (a : EM) (lo hi : Ro → PH → Out (Option Int)) : EM := fun ρ h => (a ρ h).bind fun p h1 => (lo ρ h1).bind fun l h2 => (hi ρ h2).bind fun u h3 => opt (g p l u h3)
theorem me_sl {W : WX} {a : Expr} {lo hi : Option Expr} {p2 pos : Pos} {ma : EM} {ml mh : Ro → PH → Out (Option Int)} (b : Bool) (ha : PE X a (tmE (gr X) W ma)) (hl : L2.PO X lo (tmO (gr X) W ml)) (hu : L2.PO X hi (tmO (gr X) W mh)) :
    PE X (.Subscript a (.Slice lo hi none p2) pos) (tmE (gr X) W (mSl (fSl b) ma ml mh)) := PE_imp (pe_slice (sl_ok b) ha hl hu) fun σ H Q ⟨ρ, h, Φ, r, rs, q⟩ =>
  ⟨ρ, h, Φ, r, rs, okO.bind q fun p h1 Φ1 H1 x e1 r1 rp q1 => ⟨ρ, h1, Φ1, r1, rs.ext e1, okO.bind q1 fun l h2 Φ2 H2 l' e2 r2 rl q2 => ⟨ρ, h2, Φ2, r2, (rs.ext e1).ext e2, okO.bind q2 fun u h3 Φ3 H3 u' e3 r3 ru q3 => by
    cases rl
    cases ru
    exact ⟨p, h3, Φ3, r3, (rp.ext e2).ext e3, q3.opt⟩⟩⟩⟩

/-! ### displays -/
def mTup (as : AM) : EM := fun ρ h => (as ρ h).bind fun ps h1 => if ps.length ≤ sizeLine then .ok (.tup ps) h1 else .bad
def mLst (b : Bool) (as : AM) : EM := fun ρ h => (as ρ h).bind fun ps h1 => if ps.length ≤ sizeLine then .ok (newL b ps h1).1 (newL b ps h1).2 else .bad
theorem me_tup {W : WX} {es : List Expr} {m : AM} {x1} {pos : Pos} (ha : PA X es (tmA (gr X) W m)) : PE X (.Tuple es x1 pos) (tmE (gr X) W (mTup m)) := PE_imp (pe_tup ha) fun σ H Q ⟨ρ, h, Φ, r, rs, q⟩ =>
  ⟨ρ, h, Φ, r, rs, okO.bind q fun ps h1 Φ1 H1 xs e1 r1 rp q1 => by
    split at q1
    · rename_i hc
      refine ⟨by rw [← rp.length]; exact hc, fun n hn => ?_⟩
      obtain ⟨e, r', q'⟩ := newT_ok r1 rp hn
      exact q1 Φ1 _ _ e r' q'
    · exact q1.elim⟩
theorem me_lst {W : WX} {es : List Expr} {m : AM} {pos : Pos} (b : Bool) (ha : PA X es (tmA (gr X) W m)) : PE X (.List es pos) (tmE (gr X) W (mLst b m)) := PE_imp (pe_lst ha) fun σ H Q ⟨ρ, h, Φ, r, rs, q⟩ =>
  ⟨ρ, h, Φ, r, rs, okO.bind q fun ps h1 Φ1 H1 xs e1 r1 rp q1 => by
    split at q1
    · rename_i hc
      refine ⟨by rw [← rp.length]; exact hc, fun n hn => ?_⟩
      obtain ⟨Φ', e, r', q'⟩ := newL_ok (b := b) r1 rp hn
      exact q1 Φ' _ _ e r' q'
    · exact q1.elim⟩
end
end Ev
/-! Ev4: built-ins that are called, methods of built-in types. -/
namespace Ev
open PySem PySem.Spec PyProof.Rows L2

section
variable {G : Gr} {Φ : Fo} {H : Hp} {h : PH} {Q : VK}
theorem Rs.one {p : PV} {vs : List V} (r : Rs G Φ H [p] vs) : ∃ v, vs = [v] ∧ R G Φ H p v := by
  obtain ⟨v, r1, rfl, h2, h3⟩ := r
  rw [show r1 = [] from h3]
  exact ⟨v, rfl, h2⟩
theorem Rs.two {p q : PV} {vs : List V} (r : Rs G Φ H [p, q] vs) : ∃ v u, vs = [v, u] ∧ R G Φ H p v ∧ R G Φ H q u := by
  obtain ⟨v, r1, rfl, h2, h3⟩ := r
  obtain ⟨u, rfl, h4⟩ := h3.one
  exact ⟨v, u, rfl, h2, h4⟩
/-- the values of a list, each as f has it -/
def mapO {α : Type} (f : PV → Option α) : List PV → Option (List α)
  | [] => some []
  | p :: ps => match f p, mapO f ps with
    | some a, some l => some (a :: l)
    | _, _ => none
def oB : PV → Option Bool
  | .bl b => some b
  | _ => none
def oI : PV → Option Int
  | .int b => some b
  | _ => none
def oS : PV → Option Str
  | .str b => some b
  | _ => none
abbrev asBs : List PV → Option (List Bool) := mapO oB
abbrev asIs : List PV → Option (List Int) := mapO oI
abbrev asSs : List PV → Option (List Str) := mapO oS
theorem mapO_ok {α : Type} {f : PV → Option α} {c : α → V} (hf : ∀ {p : PV} {v : V} {a : α}, R G Φ H p v → f p = some a → v = c a) : ∀ {ps : List PV} {vs : List V} {bs : List α}, Rs G Φ H ps vs → mapO f ps = some bs → vs = bs.map c
  | [], _, _, r, e => by cases e; exact r
  | p :: ps, _, bs, r, e => by
    obtain ⟨v, vr, rfl, h2, h3⟩ := r
    unfold mapO at e
    split at e
    · rename_i a l e1 e2
      cases e
      rw [List.map_cons, mapO_ok hf h3 e2, hf h2 e1]
    · cases e
theorem oB_ok {p : PV} {v : V} {b : Bool} (r : R G Φ H p v) (e : oB p = some b) : v = .bl b := by
  cases p <;> first
    | (cases e; exact r)
    | cases e
theorem oI_ok {p : PV} {v : V} {b : Int} (r : R G Φ H p v) (e : oI p = some b) : v = .int b := by
  cases p <;> first
    | (cases e; exact r)
    | cases e
theorem oS_ok {p : PV} {v : V} {b : Str} (r : R G Φ H p v) (e : oS p = some b) : v = .str b := by
  cases p <;> first
    | (cases e; exact r)
    | cases e
theorem asBs_ok {ps : List PV} {vs : List V} {bs : List Bool} (r : Rs G Φ H ps vs) (e : asBs ps = some bs) : vs = bs.map V.bl := mapO_ok (fun r e => oB_ok r e) r e
theorem asIs_ok {ps : List PV} {vs : List V} {bs : List Int} (r : Rs G Φ H ps vs) (e : asIs ps = some bs) : vs = bs.map V.int := mapO_ok (fun r e => oI_ok r e) r e
theorem asSs_ok {ps : List PV} {vs : List V} {bs : List Str} (r : Rs G Φ H ps vs) (e : asSs ps = some bs) : vs = bs.map V.str := mapO_ok (fun r e => oS_ok r e) r e
theorem mapO_map {α β : Type} {f : PV → Option β} {g : α → PV} {k : α → β} (hf : ∀ a, f (g a) = some (k a)) : ∀ l : List α, mapO f (l.map g) = some (l.map k)
  | [] => rfl
  | a :: l => by
    rw [List.map_cons, List.map_cons]
    show (match f (g a), mapO f (l.map g) with
      | some a, some l => some (a :: l)
      | _, _ => none) = _
    rw [hf a, mapO_map hf l]
theorem asBs_map (bs : List Bool) : asBs (bs.map PV.bl) = some bs := by
  have h := mapO_map (f := oB) (g := PV.bl) (k := fun b => b) (fun _ => rfl) bs
  rwa [List.map_id'] at h
theorem asIs_map (bs : List Int) : asIs (bs.map PV.int) = some bs := by
  have h := mapO_map (f := oI) (g := PV.int) (k := fun b => b) (fun _ => rfl) bs
  rwa [List.map_id'] at h
theorem asSs_map (bs : List Str) : asSs (bs.map PV.str) = some bs := by
  have h := mapO_map (f := oS) (g := PV.str) (k := fun b => b) (fun _ => rfl) bs
  rwa [List.map_id'] at h
theorem Rs.strs : ∀ ys : List Str, Rs G Φ H (ys.map PV.str) (ys.map V.str)
  | [] => rfl
  | y :: ys => ⟨_, _, rfl, rfl, Rs.strs ys⟩
theorem Rs.ints : ∀ ys : List Int, Rs G Φ H (ys.map PV.int) (ys.map V.int)
  | [] => rfl
  | y :: ys => ⟨_, _, rfl, rfl, Rs.ints ys⟩
end

section
variable {X : Cx}
def fLen : CF := fun ps h => match ps with
  | [p] => match asQ h p with
    | some xs => some (.int xs.length, h)
    | none => match p with
      | .str z => if z.length ≤ sizeLine then some (.int z.length, h) else none
      | _ => none
  | _ => none
theorem cm_len : CallM X (.builtin "len") fLen := CallM.of call_len fun xs H Q ps h Φ r rs k => by
  unfold fLen at k
  split at k
  · rename_i p
    obtain ⟨v, rfl, rv⟩ := rs.one
    split at k
    · rename_i ys e
      obtain ⟨a, vs, rfl, h2, h3⟩ := asQ_ok r rv e
      refine ⟨.ref a, ys.length, rfl, ?_, k Φ H _ .refl r rfl⟩
      rcases h2 with h2 | h2
      · exact .inl ⟨vs, h2, h3.length⟩
      · exact .inr ⟨vs, h2, h3.length⟩
    · split at k
      · rename_i z _
        split at k
        · rename_i hc
          refine ⟨v, z.length, rfl, ?_, k Φ H _ .refl r rfl⟩
          rw [show v = .str z from rv]
          exact ⟨hc, rfl⟩
        · exact k.elim
      · exact k.elim
  · exact k.elim
def fAbs : CF := fun ps h => match ps with
  | [.int i] => some (.int (if i < 0 then -i else i), h)
  | _ => none
theorem cm_abs : CallM X (.builtin "abs") fAbs := CallM.of call_abs fun xs H Q ps h Φ r rs k => by
  unfold fAbs at k
  split at k
  · rename_i i
    obtain ⟨v, rfl, rv⟩ := rs.one
    exact ⟨i, by rw [show v = .int i from rv], k Φ H _ .refl r rfl⟩
  · exact k.elim
def fInt1 : CF := fun ps h => match ps with
  | [.int i] => some (.int i, h)
  | [.bl b] => some (.int (if b then 1 else 0), h)
  | _ => none
def fInt2 : CF := fun ps h => match ps with
  | [.str a] => match PySem.intText? a with
    | some n => if a.length ≤ 640 then some (.int n, h) else none
    | none => none
  | _ => none
abbrev fInt : CF := orC fInt1 fInt2
theorem cm_int1 : CallM X (.type "int") fInt1 := CallM.of call_int1 fun xs H Q ps h Φ r rs k => by
  unfold fInt1 at k
  split at k
  · rename_i i
    obtain ⟨v, rfl, rv⟩ := rs.one
    exact .inl ⟨i, by rw [show v = .int i from rv], k Φ H _ .refl r rfl⟩
  · rename_i i
    obtain ⟨v, rfl, rv⟩ := rs.one
    exact .inr ⟨i, by rw [show v = .bl i from rv], k Φ H _ .refl r rfl⟩
  · exact k.elim
theorem cm_int2 : CallM X (.type "int") fInt2 := CallM.of call_int_str fun xs H Q ps h Φ r rs k => by
  unfold fInt2 at k
  split at k
  · rename_i a
    obtain ⟨v, rfl, rv⟩ := rs.one
    split at k
    · rename_i n e
      split at k
      · rename_i hc
        exact ⟨a, n, by rw [show v = .str a from rv], e, hc, k Φ H _ .refl r rfl⟩
      · exact k.elim
    · exact k.elim
  · exact k.elim
theorem cm_int : CallM X (.type "int") fInt := cm_int1.or cm_int2
def fStr : CF := fun ps h => match ps with
  | [.int i] => if i.natAbs.log2 < 1920 then some (.str (toString i), h) else none
  | _ => none
theorem cm_str : CallM X (.type "str") fStr := CallM.of call_str_int fun xs H Q ps h Φ r rs k => by
  unfold fStr at k
  split at k
  · rename_i i
    obtain ⟨v, rfl, rv⟩ := rs.one
    split at k
    · rename_i hc
      exact ⟨i, by rw [show v = .int i from rv], hc, k Φ H _ .refl r rfl⟩
    · exact k.elim
  · exact k.elim
def fTuple : CF := fun ps h => match ps with
  | [p] => (asQ h p).map fun xs => (.tup xs, h)
  | _ => none
theorem cm_tuple : CallM X (.type "tuple") fTuple := CallM.of call_tuple_of fun xs H Q ps h Φ r rs k => by
  unfold fTuple at k
  split at k
  · rename_i p
    obtain ⟨v, rfl, rv⟩ := rs.one
    cases e : asQ h p with
    | none => rw [e] at k; exact k.elim
    | some ys =>
      rw [e] at k
      unfold asQ at e
      split at e
      · rename_i ys' e1
        cases e
        obtain ⟨a, vs, rfl, h2, h3⟩ := asL_ok r rv e1
        refine ⟨a, vs, rfl, .inl ⟨h2, fun l hl => ?_⟩⟩
        obtain ⟨e', r', q'⟩ := newT_ok r h3 hl
        exact k Φ _ _ e' r' q'
      · obtain ⟨a, vs, h1, h2, h3⟩ := asT_ok rv e
        subst h1
        refine ⟨a, vs, rfl, .inr ⟨h2, k Φ H _ .refl r ?_⟩⟩
        cases p <;> first
          | (cases e; exact rv)
          | cases e
  · exact k.elim
def fList (b : Bool) : CF := fun ps h => match ps with
  | [p] => (asQ h p).map fun xs => newL b xs h
  | _ => none
theorem cm_list (b : Bool) : CallM X (.type "list") (fList b) := CallM.of call_list_of fun xs H Q ps h Φ r rs k => by
  unfold fList at k
  split at k
  · rename_i p
    obtain ⟨v, rfl, rv⟩ := rs.one
    cases e : asQ h p with
    | none => rw [e] at k; exact k.elim
    | some ys =>
      rw [e] at k
      obtain ⟨a, vs, rfl, h2, h3⟩ := asQ_ok r rv e
      refine ⟨a, vs, rfl, h2, fun l hl => ?_⟩
      obtain ⟨Φ', e', r', q'⟩ := newL_ok (b := b) r h3 hl
      exact k Φ' _ _ e' r' q'
  · exact k.elim
def fAll : CF := fun ps h => match ps with
  | [p] => ((asL h p).bind asBs).map fun bs => (.bl (bs.all id), h)
  | _ => none
def fAny : CF := fun ps h => match ps with
  | [p] => ((asL h p).bind asBs).map fun bs => (.bl (bs.any id), h)
  | _ => none
def fSum : CF := fun ps h => match ps with
  | [p] => ((asL h p).bind asIs).map fun bs => (.int bs.sum, h)
  | _ => none
theorem bs_ok {G : Gr} {Φ : Fo} {H : Hp} {h : PH} {p : PV} {v : V} {α : Type} {f : List PV → Option (List α)} {c : α → V} {bs : List α} (hf : ∀ {ps : List PV} {vs : List V} {bs : List α}, Rs G Φ H ps vs → f ps = some bs → vs = bs.map c)
    (r : Hr G Φ H h) (rv : R G Φ H p v) (e : (asL h p).bind f = some bs) : ∃ a, v = .ref a ∧ SqL G.K H a (bs.map c) := by
  cases e1 : asL h p with
  | none => rw [e1] at e; cases e
  | some xs =>
    rw [e1] at e
    obtain ⟨a, vs, rfl, h2, h3⟩ := asL_ok r rv e1
    exact ⟨a, rfl, by rw [← hf h3 e]; exact h2⟩
theorem cm_all (hc : X.calm = true) : CallM X (.builtin "all") fAll := CallM.of (cr_all hc) fun xs H Q ps h Φ r rs k => by
  unfold fAll at k
  split at k
  · rename_i p
    obtain ⟨v, rfl, rv⟩ := rs.one
    cases e : (asL h p).bind asBs with
    | none => rw [e] at k; exact k.elim
    | some bs =>
      rw [e] at k
      obtain ⟨a, rfl, h2⟩ := bs_ok (c := V.bl) asBs_ok r rv e
      exact ⟨a, bs, rfl, h2, k Φ H _ .refl r rfl⟩
  · exact k.elim
theorem cm_any (hc : X.calm = true) : CallM X (.builtin "any") fAny := CallM.of (cr_any hc) fun xs H Q ps h Φ r rs k => by
  unfold fAny at k
  split at k
  · rename_i p
    obtain ⟨v, rfl, rv⟩ := rs.one
    cases e : (asL h p).bind asBs with
    | none => rw [e] at k; exact k.elim
    | some bs =>
      rw [e] at k
      obtain ⟨a, rfl, h2⟩ := bs_ok (c := V.bl) asBs_ok r rv e
      exact ⟨a, bs, rfl, h2, k Φ H _ .refl r rfl⟩
  · exact k.elim
theorem cm_sum (hc : X.calm = true) : CallM X (.builtin "sum") fSum := CallM.of (cr_sum hc) fun xs H Q ps h Φ r rs k => by
  unfold fSum at k
  split at k
  · rename_i p
    obtain ⟨v, rfl, rv⟩ := rs.one
    cases e : (asL h p).bind asIs with
    | none => rw [e] at k; exact k.elim
    | some bs =>
      rw [e] at k
      obtain ⟨a, rfl, h2⟩ := bs_ok (c := V.int) asIs_ok r rv e
      exact ⟨a, bs, rfl, h2, k Φ H _ .refl r rfl⟩
  · exact k.elim

/-! ### isinstance, built-in classes -/
def tyN (h : PH) : PV → Option String
  | .non => some "NoneType"
  | .bl _ => some "bool"
  | .int _ => some "int"
  | .str _ => some "str"
  | .tup _ => some "tuple"
  | .lst _ => some "list"
  | .rol _ => some "list"
  | .dct _ _ => some "dict"
  | .ref n => match h[n]? with
    | some (.lst _) => some "list"
    | some (.dct _ _) => some "dict"
    | _ => none
  | _ => none
theorem tyN_ok {G : Gr} {Φ : Fo} {H : Hp} {h : PH} {p : PV} {v : V} {n : String} (r : Hr G Φ H h) (rp : R G Φ H p v) (e : tyN h p = some n) : TyX G.K H v (.type n) := by
  cases p with
  | non => cases e; rw [show v = _ from rp]; exact .base .non
  | bl b => cases e; rw [show v = _ from rp]; exact .base (.bl b)
  | int b => cases e; rw [show v = _ from rp]; exact .base (.int b)
  | str b => cases e; rw [show v = _ from rp]; exact .base (.str b)
  | tup xs =>
    cases e
    obtain ⟨a, vs, rfl, h2, h3⟩ := rp
    rcases h2 with ⟨_, h2 | ⟨o, h2⟩⟩ | ⟨o, its, n, k, c, _⟩
    · exact .base (.tup h2)
    · exact .fTuple h2
    · exact .kTuple k c
  | lst xs =>
    cases e
    obtain ⟨a, vs, rfl, h1, h2, h3⟩ := rp
    exact .base (.lst h2)
  | rol xs =>
    cases e
    obtain ⟨a, vs, rfl, h2, h3⟩ := rp
    rcases h2 with ⟨_, h2 | ⟨o, h2⟩⟩ | ⟨o, its, n, k, c, _⟩
    · exact .base (.lst h2)
    · exact .base (.frz h2)
    · exact .kList k c
  | dct ks xs =>
    cases e
    obtain ⟨a, kvs, rfl, h1, h2 | ⟨o, h2⟩, h3⟩ := rp
    · exact .base (.dK h2)
    · exact .fDict h2
  | ref m =>
    unfold tyN at e
    cases q : h[m]? with
    | none => simp [q] at e
    | some o =>
      obtain ⟨a, h1, ho⟩ := r.ob m o q
      obtain ⟨b, h4, h5⟩ := rp
      rw [h1] at h4; cases h4
      cases o with
      | lst ys =>
        simp [q] at e; subst e
        obtain ⟨vs, h2, h3⟩ := ho
        rw [h5]; exact .base (.lst h2)
      | dct ks ys =>
        simp [q] at e; subst e
        obtain ⟨kvs, h2, h3⟩ := ho
        rw [h5]; exact .base (.dK h2)
      | _ => simp [q] at e
  | _ => cases e
def fIsi : CF := fun ps h => match ps with
  | [p, .ty n] => match tyN h p with
    | some t => (kitB t n).map fun b => (.bl b, h)
    | none => none
  | _ => none
theorem cm_isi : CallM X (.builtin "isinstance") fIsi := CallM.of call_isi fun xs H Q ps h Φ r rs k => by
  unfold fIsi at k
  split at k
  · rename_i p n
    obtain ⟨v, u, rfl, rv, ru⟩ := rs.two
    split at k
    · rename_i t e
      cases e2 : kitB t n with
      | none => rw [e2] at k; exact k.elim
      | some b =>
        rw [e2] at k
        exact ⟨v, .ty n, .type t, .type n, b, by rw [show u = .ty n from ru], .ty n, tyN_ok r rv e, kit_ty e2, k Φ H _ .refl r rfl⟩
    · exact k.elim
  · exact k.elim

/-! ### methods -/
abbrev MF := PV → List PV → PH → Option (PV × PH)
def rMt (G : Gr) (g : MF) : V → List V → Hp → VK → Prop := fun x xs H Q => ∃ p ps h Φ, Hr G Φ H h ∧ R G Φ H p x ∧ Rs G Φ H ps xs ∧ okP (R G) G Q Φ H (g p ps h)
theorem MtR_of {id : String} {r r' : V → List V → Hp → VK → Prop} (h : MtR X id r) (i : ∀ x xs H Q, r' x xs H Q → r x xs H Q) : MtR X id r' := fun pins s σ H x xs v us Q I rx rs q => h pins s σ H x xs v us Q I rx rs (i _ _ _ _ q)
def isS : PV → Bool
  | .str _ => true
  | _ => false
def isT (T : String) (h : PH) (p : PV) : Bool := (isS p && decide (T = "str")) || ((asL h p).isSome && decide (T = "list"))
theorem isT_ok {G : Gr} {Φ : Fo} {H : Hp} {h : PH} {p : PV} {v : V} {T : String} (r : Hr G Φ H h) (rp : R G Φ H p v) (e : isT T h p = true) : tyV G.K T v H := by
  rcases Bool.or_eq_true_iff.mp e with e | e
  · obtain ⟨e1, e2⟩ := Bool.and_eq_true_iff.mp e
    cases p with
    | str z =>
      rw [show v = V.str z from rp]
      exact of_decide_eq_true (p := T = "str") e2
    | _ => cases e1
  · obtain ⟨e1, e2⟩ := Bool.and_eq_true_iff.mp e
    obtain ⟨xs, e1⟩ := Option.isSome_iff_exists.mp e1
    obtain ⟨a, vs, rfl, h2, h3⟩ := asL_ok r rp e1
    exact .inl ⟨of_decide_eq_true e2, vs, h2⟩
def mMt (T : String) (g : MF) (a : EM) (as : AM) : EM := fun ρ h => (a ρ h).bind fun p h1 => if isT T h1 p then (as ρ h1).bind fun ps h2 => opt (g p ps h2) else .bad
variable {o e : Expr} {es : List Expr} {name : Str} {apos cpos : Pos} {T id : String} {g : MF} {W : WX} {ma : EM} {mr : AM}
theorem me_mt (pa : PlainAttrs T) (slot : Slot T name id) (hty : typeOf (.builtin id) = pure (.type "method_descriptor")) (hm : MtR X id (rMt (gr X) g)) (ho : PE X o (tmE (gr X) W ma)) (ha : PA X (e :: es) (tmA (gr X) W mr))
    (hbase : attributeBase o name X.env (eval o X.env) = eval o X.env := by rfl)
    (hfew : ((backTo cpos (starEach (e :: es) X.env)).all (fun x => !x.1) && (backToKw cpos (keywordEach [] X.env)).all (fun x => x.1.isSome)
      && decide ((e :: es).length + ([] : List Keyword).length + (if ([] : List Keyword).isEmpty then 0 else 1) < 30)) = true := by rfl)
    (hline : (apos.endLine == cpos.line) = true := by rfl) (hs : starEach (e :: es) X.env = (false, eval e X.env) :: starEach es X.env := by rfl) (hplain : (backTo cpos (starEach es X.env)).any (·.1) = false := by rfl) :
    PE X (.Call (.Attribute o name apos) (e :: es) [] cpos) (tmE (gr X) W (mMt T g ma mr)) := PE_imp (pe_bm pa slot hty hm ho ha hbase hfew hline hs hplain) fun σ H Q ⟨ρ, h, Φ, r, rs, q⟩ =>
  ⟨ρ, h, Φ, r, rs, okO.bind q fun p h1 Φ1 H1 x e1 r1 rp q1 => by
    split at q1
    · rename_i hc
      exact ⟨isT_ok r1 rp hc, ρ, h1, Φ1, r1, rs.ext e1, okO.bind q1 fun ps h2 Φ2 H2 xs e2 r2 rp2 q2 => ⟨p, ps, h2, Φ2, r2, rp.ext e2, rp2, q2.opt⟩⟩
    · exact q1.elim⟩
/-- xs.append(x) -/
def fAppend : MF := fun p ps h => match p, ps with
  | .ref n, [x] => match h[n]? with
    | some (.lst xs) => if xs.length < sizeLine then some (.non, h.set n (.lst (xs ++ [x]))) else none
    | _ => none
  | _, _ => none
theorem mm_append : MtR X "list.append" (rMt (gr X) fAppend) := MtR_of mt_append fun x xs H Q ⟨p, ps, h, Φ, r, rp, rs, k⟩ => by
  unfold fAppend at k
  split at k
  · rename_i n y
    split at k
    · rename_i ys e
      split at k
      · rename_i hc
        obtain ⟨u, rfl, ru⟩ := rs.one
        obtain ⟨a, h1, vs, h2, h3⟩ := r.ob n _ e
        obtain ⟨b, h4, h5⟩ := rp
        rw [h1] at h4; cases h4
        have ex : Ext Φ H Φ (upd H a (.lst (vs ++ [u]))) := Ext.wrote h1
        exact ⟨a, vs, u, h5, rfl, h2, by rw [← h3.length]; exact hc, k Φ _ _ ex (r.wrote h1 ⟨_, upd_same, (h3.snoc ru).ext ex⟩) rfl⟩
      · exact k.elim
    · exact k.elim
  · exact k.elim
/-- s.split(t) -/
def fSplit (b : Bool) : MF := fun p ps h => match p, ps with
  | .str x, [.str y] => if (y.length == 0) = false ∧ x.length + 2 ≤ sizeLine then some (newL b ((Txt.split x y).map PV.str) h) else none
  | _, _ => none
theorem mm_split (b : Bool) : MtR X "str.split" (rMt (gr X) (fSplit b)) := MtR_of mt_split fun x xs H Q ⟨p, ps, h, Φ, r, rp, rs, k⟩ => by
  unfold fSplit at k
  split at k
  · rename_i y z
    split at k
    · rename_i hc
      obtain ⟨u, rfl, ru⟩ := rs.one
      refine ⟨y, z, rp, by rw [show u = .str z from ru], hc.1, hc.2, fun n hn => ?_⟩
      obtain ⟨Φ', e', r', q'⟩ := newL_ok (b := b) r (Rs.strs (Txt.split y z)) hn
      exact k Φ' _ _ e' r' q'
    · exact k.elim
  · exact k.elim
/-- s.join(xs) -/
def fJoin : MF := fun p ps h => match p, ps with
  | .str x, [q] => match (asQ h q).bind asSs with
    | some ys => if (ys.map (·.length)).sum + ys.length * x.length ≤ 16777216 then some (.str (Txt.join x ys), h) else none
    | none => none
  | _, _ => none
theorem mm_join : MtR X "str.join" (rMt (gr X) fJoin) := MtR_of mt_join fun x xs H Q ⟨p, ps, h, Φ, r, rp, rs, k⟩ => by
  unfold fJoin at k
  split at k
  · rename_i y q
    obtain ⟨u, rfl, ru⟩ := rs.one
    split at k
    · rename_i ys e
      split at k
      · rename_i hc
        cases e1 : asQ h q with
        | none => rw [e1] at e; cases e
        | some zs =>
          rw [e1] at e
          obtain ⟨a, vs, h1, h2, h3⟩ := asQ_ok r ru e1
          have e3 := asSs_ok h3 e
          subst e3
          exact ⟨y, a, ys, rp, by rw [h1], h2, hc, k Φ H _ .refl r rfl⟩
      · exact k.elim
    · exact k.elim
  · exact k.elim
def mAppend := mMt "list" fAppend
theorem me_append (ho : PE X o (tmE (gr X) W ma)) (ha : PA X [e] (tmA (gr X) W mr)) (hbase : attributeBase o "append" X.env (eval o X.env) = eval o X.env := by rfl)
    (hfew : ((backTo cpos (starEach [e] X.env)).all (fun x => !x.1) && (backToKw cpos (keywordEach [] X.env)).all (fun x => x.1.isSome)
      && decide ([e].length + ([] : List Keyword).length + (if ([] : List Keyword).isEmpty then 0 else 1) < 30)) = true := by rfl)
    (hline : (apos.endLine == cpos.line) = true := by rfl) (hs : starEach [e] X.env = (false, eval e X.env) :: starEach [] X.env := by rfl) (hplain : (backTo cpos (starEach [] X.env)).any (·.1) = false := by rfl) :
    PE X (.Call (.Attribute o "append" apos) [e] [] cpos) (tmE (gr X) W (mMt "list" fAppend ma mr)) :=
  me_mt PySem.F.plainAttrs_list PySem.F.slot_list_append PySem.F.type_list_append mm_append ho ha hbase hfew hline hs hplain
theorem me_split (b : Bool) (ho : PE X o (tmE (gr X) W ma)) (ha : PA X [e] (tmA (gr X) W mr)) (hbase : attributeBase o "split" X.env (eval o X.env) = eval o X.env := by rfl)
    (hfew : ((backTo cpos (starEach [e] X.env)).all (fun x => !x.1) && (backToKw cpos (keywordEach [] X.env)).all (fun x => x.1.isSome)
      && decide ([e].length + ([] : List Keyword).length + (if ([] : List Keyword).isEmpty then 0 else 1) < 30)) = true := by rfl)
    (hline : (apos.endLine == cpos.line) = true := by rfl) (hs : starEach [e] X.env = (false, eval e X.env) :: starEach [] X.env := by rfl) (hplain : (backTo cpos (starEach [] X.env)).any (·.1) = false := by rfl) :
    PE X (.Call (.Attribute o "split" apos) [e] [] cpos) (tmE (gr X) W (mMt "str" (fSplit b) ma mr)) :=
  me_mt PySem.F.plainAttrs_str PySem.F.slot_str_split PySem.F.type_str_split (mm_split b) ho ha hbase hfew hline hs hplain
theorem me_join (ho : PE X o (tmE (gr X) W ma)) (ha : PA X [e] (tmA (gr X) W mr)) (hbase : attributeBase o "join" X.env (eval o X.env) = eval o X.env := by rfl)
    (hfew : ((backTo cpos (starEach [e] X.env)).all (fun x => !x.1) && (backToKw cpos (keywordEach [] X.env)).all (fun x => x.1.isSome)
      && decide ([e].length + ([] : List Keyword).length + (if ([] : List Keyword).isEmpty then 0 else 1) < 30)) = true := by rfl)
    (hline : (apos.endLine == cpos.line) = true := by rfl) (hs : starEach [e] X.env = (false, eval e X.env) :: starEach [] X.env := by rfl) (hplain : (backTo cpos (starEach [] X.env)).any (·.1) = false := by rfl) :
    PE X (.Call (.Attribute o "join" apos) [e] [] cpos) (tmE (gr X) W (mMt "str" fJoin ma mr)) :=
  me_mt PySem.F.plainAttrs_str PySem.F.slot_str_join PySem.F.type_str_join mm_join ho ha hbase hfew hline hs hplain
end
end Ev
/-! Ev5: statements, targets, loops. -/
namespace Ev
open PySem PySem.Spec PyProof.Rows L2

inductive SO where
  | nx (ρ : Ro) (h : PH) | rt (v : PV) (h : PH) | bk (ρ : Ro) (h : PH) | ct (ρ : Ro) (h : PH) | ex (c : Str) (fs : List Str) (xs : List PV) (ρ : Ro) (h : PH) | bad
abbrev SM := Ro → PH → SO
def okS (G : Gr) (W : WX) (D : Ends) (Φ : Fo) (H : Hp) : SO → Prop
  | .nx ρ h => ∀ Φ' H' σ', Ext Φ H Φ' H' → Hr G Φ' H' h → Ros G Φ' H' ρ σ' → D.nx σ' H'
  | .rt v h => ∀ Φ' H' u, Ext Φ H Φ' H' → Hr G Φ' H' h → R G Φ' H' v u → D.rt u H'
  | .bk ρ h => ∀ Φ' H' σ', Ext Φ H Φ' H' → Hr G Φ' H' h → Ros G Φ' H' ρ σ' → D.bk σ' H'
  | .ct ρ h => ∀ Φ' H' σ', Ext Φ H Φ' H' → Hr G Φ' H' h → Ros G Φ' H' ρ σ' → D.ct σ' H'
  | .ex c fs xs ρ h => ∀ Φ' H' C d σ', Ext Φ H Φ' H' → Hr G Φ' H' h → Ros G Φ' H' ρ σ' → G.mg c = some (.ref C) → XR G Φ' H' d fs xs → W (.ref C) d σ' H'
  | .bad => False
/-- what a statement that means m asks -/
def tsm (G : Gr) (W : WX) (m : SM) : TS := fun D σ H => ∃ ρ h Φ, Hr G Φ H h ∧ Ros G Φ H ρ σ ∧ okS G W D Φ H (m ρ h)
/-- an expression's outcome goes on as a statement -/
def Out.st {α : Type} (o : Out α) (ρ : Ro) (k : α → PH → SO) : SO := match o with
  | .ok a h => k a h
  | .ex c fs xs h => .ex c fs xs ρ h
  | .bad => .bad
section
variable {G : Gr} {W : WX} {D D' : Ends} {Φ Φ' : Fo} {H H' : Hp} {σ : Sl} {ρ : Ro} {h : PH}
theorem okS.start {o : SO} (e : Ext Φ H Φ' H') (q : okS G W D Φ H o) : okS G W D Φ' H' o := by
  cases o with
  | nx ρ h => exact fun Φ2 H2 σ2 e2 r s => q Φ2 H2 σ2 (e.trans e2) r s
  | rt v h => exact fun Φ2 H2 u e2 r s => q Φ2 H2 u (e.trans e2) r s
  | bk ρ h => exact fun Φ2 H2 σ2 e2 r s => q Φ2 H2 σ2 (e.trans e2) r s
  | ct ρ h => exact fun Φ2 H2 σ2 e2 r s => q Φ2 H2 σ2 (e.trans e2) r s
  | ex c fs xs ρ h => exact fun Φ2 H2 C d σ2 e2 r s m x => q Φ2 H2 C d σ2 (e.trans e2) r s m x
  | bad => exact q
theorem okS.st {α β : Type} {rel : Rel α β} {Q : β → Hp → Prop} {o : Out α} {k : α → PH → SO} (rs : Ros G Φ H ρ σ) (q : okS G W D Φ H (o.st ρ k))
    (s : ∀ a h' Φ' H' b, Ext Φ H Φ' H' → Hr G Φ' H' h' → rel Φ' H' a b → okS G W D Φ' H' (k a h') → Q b H') : okO rel G W Q σ Φ H o := by
  cases o with
  | ok a h' => exact fun Φ2 H2 b e r x => s a h' Φ2 H2 b e r x (okS.start e q)
  | ex c fs xs h' => exact fun Φ2 H2 C d e r m x => q Φ2 H2 C d σ e r (rs.ext e) m x
  | bad => exact q
end
theorem PS_imp {X : Cx} {e : Stmt} {t t' : TS} (h : PS X e t) (i : ∀ D σ H, t' D σ H → t D σ H) : PS X e t' := ⟨fun pins s σ H D I q => h.run pins s σ H D I (i _ _ _ q)⟩
theorem PSs_imp {X : Cx} {e : List Stmt} {t t' : TS} (h : PSs X e t) (i : ∀ D σ H, t' D σ H → t D σ H) : PSs X e t' := ⟨fun pins s σ H D I q => h.run pins s σ H D I (i _ _ _ q)⟩

/-! ### targets -/
inductive Tg where
  | nm (i : Nat) | tp (ts : List Tg)
mutual
def asg : Tg → PV → Ro → Option Ro
  | .nm i, p, ρ => some (ρ.set i (some p))
  | .tp ts, p, ρ => match asT p with
    | some ps => asgs ts ps ρ
    | none => none
def asgs : List Tg → List PV → Ro → Option Ro
  | [], [], ρ => some ρ
  | t :: ts, p :: ps, ρ => match asg t p ρ with
    | some ρ1 => asgs ts ps ρ1
    | none => none
  | _, _, _ => none
end
mutual
def gTg (K : PySem.W.Frag) : Tg → TG
  | .nm i => gName i
  | .tp ts => gTup K ts.length (gTgs K ts)
def gTgs (K : PySem.W.Frag) : List Tg → TGs
  | [] => gNil
  | t :: ts => gCons (gTg K t) (gTgs K ts)
end
mutual
def slots : Tg → List Nat
  | .nm i => [i]
  | .tp ts => slotss ts
def slotss : List Tg → List Nat
  | [] => []
  | t :: ts => slots t ++ slotss ts
end
theorem wipe_set {σ : Sl} {i : Nat} {x : Option V} : ∀ {vs : List Nat}, i ∈ vs → wipe (σ.set i x) vs = wipe σ vs
  | v :: vs, m => by
    unfold wipe
    by_cases h : i ∈ vs
    · rw [wipe_set h]
    · have e : i = v := (List.mem_cons.mp m).resolve_right h
      subst e
      have gen : ∀ (ws : List Nat) (τ : Sl), (wipe (τ.set i x) ws).set i none = (wipe τ ws).set i none := by
        intro ws
        induction ws with
        | nil => intro τ; unfold wipe; rw [List.set_set]
        | cons w ws ih =>
          intro τ
          unfold wipe
          by_cases hw : w = i
          · subst hw; rw [List.set_set, List.set_set]; exact ih τ
          · rw [List.set_comm _ _ hw, ih τ, List.set_comm _ _ hw]
      exact gen vs σ
theorem Rs.length_of {G : Gr} {Φ : Fo} {H : Hp} {ps : List PV} {vs : List V} (r : Rs G Φ H ps vs) : vs.length = ps.length := r.length.symm
theorem asgs_len : ∀ {ts : List Tg} {ps : List PV} {ρ ρ' : Ro}, asgs ts ps ρ = some ρ' → ps.length = ts.length
  | [], [], _, _, _ => rfl
  | t :: ts, p :: ps, ρ, ρ', e => by
    unfold asgs at e
    split at e
    · rw [List.length_cons, List.length_cons, asgs_len e]
    · cases e
  | [], _ :: _, _, _, e => by simp [asgs] at e
  | _ :: _, [], _, _, e => by simp [asgs] at e
section
variable {G : Gr} {Φ : Fo} {H : Hp} {Q : Sl → Hp → Prop}
/-- the same but for these slots -/
def But (vs : List Nat) (σ σ' : Sl) : Prop := ∀ ws : List Nat, (∀ i ∈ vs, i ∈ ws) → wipe σ' ws = wipe σ ws
mutual
theorem asg_ok : ∀ {t : Tg} {p : PV} {v : V} {ρ ρ' : Ro} {σ : Sl} {Q : Sl → Hp → Prop}, asg t p ρ = some ρ' → R G Φ H p v → Ros G Φ H ρ σ → (∀ σ', Ros G Φ H ρ' σ' → But (slots t) σ σ' → Q σ' H) → gTg G.K t v σ H Q
  | .nm i, p, v, ρ, ρ', σ, Q, e, rp, rs, q => by
    cases e
    exact q _ (rs.set i rp) fun ws hw => wipe_set (hw i List.mem_cons_self)
  | .tp ts, p, v, ρ, ρ', σ, Q, e, rp, rs, q => by
    unfold asg at e
    split at e
    · rename_i ps ep
      obtain ⟨a, vs, h1, h2, h3⟩ := asT_ok rp ep
      refine ⟨a, vs, h1, h2, by rw [← h3.length]; exact asgs_len e, ?_⟩
      exact asgs_ok e h3 rs q
    · cases e
theorem asgs_ok : ∀ {ts : List Tg} {ps : List PV} {vs : List V} {ρ ρ' : Ro} {σ : Sl} {Q : Sl → Hp → Prop}, asgs ts ps ρ = some ρ' → Rs G Φ H ps vs → Ros G Φ H ρ σ → (∀ σ', Ros G Φ H ρ' σ' → But (slotss ts) σ σ' → Q σ' H) → gTgs G.K ts vs σ H Q
  | [], [], vs, ρ, ρ', σ, Q, e, rp, rs, q => by
    simp [asgs] at e
    subst e
    exact ⟨rp, q σ rs fun _ _ => rfl⟩
  | t :: ts, p :: ps, vs, ρ, ρ', σ, Q, e, rp, rs, q => by
    unfold asgs at e
    split at e
    · rename_i ρ1 e1
      obtain ⟨v, vr, rfl, h2, h3⟩ := rp
      refine ⟨v, vr, rfl, asg_ok e1 h2 rs fun σ1 rs1 b1 => asgs_ok e h3 rs1 fun σ2 rs2 b2 => q σ2 rs2 fun ws hw => ?_⟩
      rw [b2 ws (fun i hi => hw i (List.mem_append_right _ hi)), b1 ws (fun i hi => hw i (List.mem_append_left _ hi))]
    · cases e
  | [], _ :: _, _, _, _, _, _, e, _, _, _ => by simp [asgs] at e
  | _ :: _, [], _, _, _, _, _, e, _, _, _ => by simp [asgs] at e
end
end

/-! ### statements -/
def mPass : SM := fun ρ h => .nx ρ h
def mSeq (a b : SM) : SM := fun ρ h => match a ρ h with
  | .nx ρ1 h1 => b ρ1 h1
  | r => r
def mAsg (t : Tg) (e : EM) : SM := fun ρ h => (e ρ h).st ρ fun p h1 => match asg t p ρ with
  | some ρ1 => .nx ρ1 h1
  | none => .bad
def mIfS (t : TMm) (a b : SM) : SM := fun ρ h => (t ρ h).st ρ fun k h1 => if k then a ρ h1 else b ρ h1
def mRet (e : EM) : SM := fun ρ h => (e ρ h).st ρ fun p h1 => .rt p h1
def mRetN : SM := fun _ h => .rt .non h
def mExpr (e : EM) : SM := fun ρ h => (e ρ h).st ρ fun _ h1 => .nx ρ h1
def mBreak : SM := fun ρ h => .bk ρ h
def mCont : SM := fun ρ h => .ct ρ h
section
variable {X : Cx} {W : WX} {pos : Pos} {e : Expr} {me : EM} {st : Stmt} {rest : List Stmt} {ma mb : SM}
theorem ms_pass : PS X (.Pass pos) (tsm (gr X) W mPass) := PS_imp ps_pass fun D σ H ⟨ρ, h, Φ, r, rs, q⟩ => q Φ H σ .refl r rs
theorem ms_break : PS X (.Break pos) (tsm (gr X) W mBreak) := PS_imp ps_break fun D σ H ⟨ρ, h, Φ, r, rs, q⟩ => q Φ H σ .refl r rs
theorem ms_cont : PS X (.Continue pos) (tsm (gr X) W mCont) := PS_imp ps_continue fun D σ H ⟨ρ, h, Φ, r, rs, q⟩ => q Φ H σ .refl r rs
theorem ms_nil : PSs X [] (tsm (gr X) W mPass) := PSs_imp pss_nil fun D σ H ⟨ρ, h, Φ, r, rs, q⟩ => q Φ H σ .refl r rs
theorem ms_one (a : PS X st (tsm (gr X) W ma)) : PSs X [st] (tsm (gr X) W ma) := pss_one a
theorem ms_cons (a : PS X st (tsm (gr X) W ma)) (b : PSs X rest (tsm (gr X) W mb)) : PSs X (st :: rest) (tsm (gr X) W (mSeq ma mb)) := PSs_imp (pss_cons a b) fun D σ H ⟨ρ, h, Φ, r, rs, q⟩ => by
  refine ⟨ρ, h, Φ, r, rs, ?_⟩
  unfold mSeq at q
  cases z : ma ρ h with
  | nx ρ1 h1 => rw [z] at q; exact fun Φ2 H2 σ2 e2 r2 s2 => ⟨ρ1, h1, Φ2, r2, s2, okS.start e2 q⟩
  | rt v h1 => rw [z] at q; exact q
  | bk ρ1 h1 => rw [z] at q; exact q
  | ct ρ1 h1 => rw [z] at q; exact q
  | ex c fs xs ρ1 h1 => rw [z] at q; exact q
  | bad => rw [z] at q; exact q
theorem ms_expr (he : PE X e (tmE (gr X) W me)) (hs : swapsWith e none pos.line X.env = pure false := by rfl) : PS X (.Expr e pos) (tsm (gr X) W (mExpr me)) := PS_imp (ps_expr he hs) fun D σ H ⟨ρ, h, Φ, r, rs, q⟩ =>
  ⟨ρ, h, Φ, r, rs, okS.st rs q fun p h1 Φ1 H1 x e1 r1 rp q1 => q1 Φ1 H1 σ .refl r1 (rs.ext e1)⟩
theorem ms_ret (he : PE X e (tmE (gr X) W me)) : PS X (.Return (some e) pos) (tsm (gr X) W (mRet me)) := PS_imp (ps_ret he) fun D σ H ⟨ρ, h, Φ, r, rs, q⟩ =>
  ⟨ρ, h, Φ, r, rs, okS.st rs q fun p h1 Φ1 H1 x e1 r1 rp q1 => q1 Φ1 H1 x .refl r1 rp⟩
theorem ms_retN : PS X (.Return none pos) (tsm (gr X) W mRetN) := PS_imp ps_retN fun D σ H ⟨ρ, h, Φ, r, rs, q⟩ => q Φ H .non .refl r rfl
theorem ms_if {c : Expr} {a b : List Stmt} {mt : TMm} (hc : PT X c (tmT (gr X) W mt)) (ha : PSs X a (tsm (gr X) W ma)) (hb : PSs X b (tsm (gr X) W mb)) : PS X (.If c a b pos) (tsm (gr X) W (mIfS mt ma mb)) :=
  PS_imp (ps_if hc ha hb) fun D σ H ⟨ρ, h, Φ, r, rs, q⟩ => ⟨ρ, h, Φ, r, rs, okS.st rs q fun k h1 Φ1 H1 x e1 r1 rp q1 => by
    have rp' : k = x := rp
    subst rp'
    cases k with
    | true => rw [if_pos rfl]; exact ⟨ρ, h1, Φ1, r1, rs.ext e1, q1⟩
    | false => rw [if_neg Bool.false_ne_true]; exact ⟨ρ, h1, Φ1, r1, rs.ext e1, q1⟩⟩
theorem asgn_ok {te : TE} {t : Tg} (i : ∀ σ H Q, tmE (gr X) W me σ H Q → te σ H Q) (D : Ends) (σ : Sl) (H : Hp) (q : tsm (gr X) W (mAsg t me) D σ H) : te σ H (fun x H1 => gTg X.K t x σ H1 D.nx) := by
  obtain ⟨ρ, h, Φ, r, rs, q⟩ := q
  refine i _ _ _ ⟨ρ, h, Φ, r, rs, okS.st rs q fun p h1 Φ1 H1 x e1 r1 rp q1 => ?_⟩
  split at q1
  · rename_i ρ1 e2
    exact asg_ok (G := gr X) e2 rp (rs.ext e1) fun σ' rs' _ => q1 Φ1 H1 σ' .refl r1 rs'
  · exact q1.elim
/-- target = e, the target a name or a tuple of names -/
theorem ms_asg {tg : Expr} {t : Tg} {g : TG} (he : PE X e (tmE (gr X) W me)) (hg : PG X tg g) (eg : g = gTg X.K t := by rfl) (hs : swapsWithSole [tg] e pos.line X.env = pure false := by rfl) (hw : swappedStores [tg] e X.env = pure none := by rfl)
    (h1 : (assignEach [tg] X.env).map (·.2) = [assign tg X.env] := by rfl) : PS X (.Assign [tg] e pos) (tsm (gr X) W (mAsg t me)) := by
  subst eg
  exact PS_imp (ps_asg he hg hs hw h1) fun D σ H q => asgn_ok (fun _ _ _ q => q) D σ H q
/-- x = e -/
theorem ms_set (i : Nat) {x : Str} {px : Pos} (he : PE X e (tmE (gr X) W me)) (nd : X.N.Nodup) (hi : X.N[i]? = some x := by rfl) (hx : Loc X.env.scope x := by first | exact Or.inl rfl | exact Or.inr rfl)
    (hf : X.fn x = true ∨ X.env.scope.names.lookup x = some .local := by first | exact .inl rfl | exact .inr rfl) (hs : swapsWithSole [.Name x px] e pos.line X.env = pure false := by rfl) (hw : swappedStores [.Name x px] e X.env = pure none := by rfl) :
    PS X (.Assign [.Name x px] e pos) (tsm (gr X) W (mAsg (.nm i) me)) := ms_asg (t := .nm i) he (pg_name nd hi hx hf) rfl hs hw rfl
end

/-! ### what is walked -/
structure Its where
  items : List PV
  chk : PH → Bool
/-- J walks these items, wherever the source stands -/
def rIt (G : Gr) : Rel Its It := fun Φ H s J => ∀ Φ' H' h', Ext Φ H Φ' H' → Hr G Φ' H' h' → s.chk h' = true → ∀ i,
  (∀ p, s.items[i]? = some p → J.go i H' ∧ ∀ x H'', J.yld i H' x H'' → ∃ Φ'', Ext Φ' H' Φ'' H'' ∧ Hr G Φ'' H'' h' ∧ R G Φ'' H'' p x) ∧ (s.items.length ≤ i → J.stop i H')
abbrev IMm := Ro → PH → Out Its
abbrev tmI (G : Gr) (W : WX) (m : IMm) : TI := tm (rIt G) G W m
def forL (chk : PH → Bool) (t : Tg) (body : SM) : List PV → Ro → PH → SO
  | [], ρ, h => if chk h then .nx ρ h else .bad
  | p :: ps, ρ, h => if chk h then (match asg t p ρ with
    | none => .bad
    | some ρ1 => match body ρ1 h with
      | .nx ρ2 h2 => forL chk t body ps ρ2 h2
      | .ct ρ2 h2 => forL chk t body ps ρ2 h2
      | .bk ρ2 h2 => .nx ρ2 h2
      | r => r) else .bad
def mFor (mi : IMm) (t : Tg) (body : SM) : SM := fun ρ h => (mi ρ h).st ρ fun s h1 => forL s.chk t body s.items ρ h1
theorem PI_imp {X : Cx} {tg e : Expr} {t t' : TI} (h : PI X tg e t) (i : ∀ σ H Q, t' σ H Q → t σ H Q) : PI X tg e t' := ⟨fun pins s σ H Q I q => h.run pins s σ H Q I (i _ _ _ q)⟩
section
variable {X : Cx} {W : WX} {pos : Pos}
theorem for_ok {G : Gr} {mi : IMm} {t : Tg} {mb : SM} {D : Ends} {σ : Sl} {H : Hp} (q : tsm G W (mFor mi t mb) D σ H) : tFor (tmI G W mi) (gTg G.K t) (tsm G W mb) D σ H := by
  obtain ⟨ρ, h, Φ, r, rs, q⟩ := q
  refine ⟨ρ, h, Φ, r, rs, okS.st rs q fun s h1 Φ1 H1 J e1 r1 rj q1 => ?_⟩
  refine ⟨fun i m σ H => ∃ ρ h Φ', m = s.items.length - i ∧ i ≤ s.items.length ∧ Ext Φ1 H1 Φ' H ∧ Hr G Φ' H h ∧ Ros G Φ' H ρ σ ∧ okS G W D Φ' H (forL s.chk t mb (s.items.drop i) ρ h),
    ⟨s.items.length, ρ, h1, Φ1, rfl, Nat.zero_le _, .refl, r1, rs.ext e1, q1⟩, ?_⟩
  rintro i m σ2 H2 ⟨ρ2, h2, Φ2, rfl, hi, e2, r2, rs2, q2⟩
  by_cases hlt : i < s.items.length
  · rw [List.drop_eq_getElem_cons hlt] at q2
    unfold forL at q2
    split at q2
    · rename_i hc
      split at q2
      · exact q2.elim
      · rename_i ρ3 e3
        obtain ⟨hgo, hy⟩ := (rj Φ2 H2 h2 e2 r2 hc i).1 _ (List.getElem?_eq_getElem hlt)
        refine .inr ⟨hgo, fun σ' H' => ∃ ρ h Φ', Ext Φ1 H1 Φ' H' ∧ Hr G Φ' H' h ∧ Ros G Φ' H' ρ σ' ∧ okS G W D Φ' H' (forL s.chk t mb (s.items.drop (i + 1)) ρ h),
          fun σ' H' ⟨ρ', h', Φ', a, b, c, d⟩ => ⟨s.items.length - (i + 1), by omega, ρ', h', Φ', rfl, hlt, a, b, c, d⟩, fun x H'' yx => ?_⟩
        obtain ⟨Φ4, e4, r4, rx⟩ := hy x H'' yx
        refine asg_ok e3 rx (rs2.ext e4) fun σ5 rs5 _ => ⟨ρ3, h2, Φ4, r4, rs5, ?_⟩
        have q3 := okS.start e4 q2
        cases z : mb ρ3 h2 with
        | nx ρ6 h6 => rw [z] at q3; exact fun Φ6 H6 σ6 e6 r6 s6 => ⟨ρ6, h6, Φ6, (e2.trans e4).trans e6, r6, s6, okS.start e6 q3⟩
        | ct ρ6 h6 => rw [z] at q3; exact fun Φ6 H6 σ6 e6 r6 s6 => ⟨ρ6, h6, Φ6, (e2.trans e4).trans e6, r6, s6, okS.start e6 q3⟩
        | bk ρ6 h6 => rw [z] at q3; exact q3
        | rt v h6 => rw [z] at q3; exact q3
        | ex c fs xs ρ6 h6 => rw [z] at q3; exact q3
        | bad => rw [z] at q3; exact q3
    · exact q2.elim
  · have hi' : i = s.items.length := by omega
    subst hi'
    rw [List.drop_length] at q2
    unfold forL at q2
    split at q2
    · rename_i hc
      exact .inl ⟨(rj Φ2 H2 h2 e2 r2 hc _).2 (Nat.le_refl _), q2 Φ2 H2 σ2 .refl r2 rs2⟩
    · exact q2.elim
theorem ms_for {iter tg : Expr} {body : List Stmt} {mi : IMm} {t : Tg} {g : TG} {mb : SM} (hp : PassesOwn (model X.prog X.w) X.A X.env X.xe) (hc : X.calm = true) (hi : PI X tg iter (tmI (gr X) W mi)) (hg : PG X tg g) (hb : PSs X body (tsm (gr X) W mb))
    (eg : g = gTg X.K t := by rfl) (hs : ∀ x, foldedSetIterable iter X.env x = pure x := by intro _; rfl) : PS X (.For tg iter body [] pos) (tsm (gr X) W (mFor mi t mb)) := by
  subst eg
  exact PS_imp (ps_for hp hc hi hg hb hs) fun D σ H q => for_ok q

/-! ### while -/
/-- n turns at most -/
def whileL (t : TMm) (body : SM) : Nat → Ro → PH → SO
  | 0, _, _ => .bad
  | n + 1, ρ, h => (t ρ h).st ρ fun k h1 => if k then (match body ρ h1 with
    | .nx ρ2 h2 => whileL t body n ρ2 h2
    | .ct ρ2 h2 => whileL t body n ρ2 h2
    | .bk ρ2 h2 => .nx ρ2 h2
    | r => r) else .nx ρ h1
/-- a bound for the turns, read off the state -/
def mWhile (f : Ro → PH → Nat) (t : TMm) (body : SM) : SM := fun ρ h => whileL t body (f ρ h) ρ h
theorem while_ok {G : Gr} {f : Ro → PH → Nat} {mt : TMm} {mb : SM} {D : Ends} {σ : Sl} {H : Hp} (q : tsm G W (mWhile f mt mb) D σ H) : tWhile (tmT G W mt) (tsm G W mb) D σ H := by
  obtain ⟨ρ, h, Φ, r, rs, q⟩ := q
  refine ⟨fun m σ H => ∃ ρ h Φ, Hr G Φ H h ∧ Ros G Φ H ρ σ ∧ okS G W D Φ H (whileL mt mb m ρ h), ⟨f ρ h, ρ, h, Φ, r, rs, q⟩, ?_⟩
  rintro m σ1 H1 ⟨ρ1, h1, Φ1, r1, rs1, q1⟩
  cases m with
  | zero => exact q1.elim
  | succ n =>
    unfold whileL at q1
    refine ⟨ρ1, h1, Φ1, r1, rs1, okS.st rs1 q1 fun k h2 Φ2 H2 x e2 r2 rk q2 => ?_⟩
    have rk' : k = x := rk
    subst rk'
    cases k with
    | false => rw [if_neg Bool.false_ne_true]; exact q2 Φ2 H2 σ1 .refl r2 (rs1.ext e2)
    | true =>
      rw [if_pos rfl]
      refine ⟨fun σ' H' => ∃ ρ h Φ, Hr G Φ H' h ∧ Ros G Φ H' ρ σ' ∧ okS G W D Φ H' (whileL mt mb n ρ h), fun σ' H' z => ⟨n, Nat.lt_succ_self n, z⟩, ρ1, h2, Φ2, r2, rs1.ext e2, ?_⟩
      rw [if_pos rfl] at q2
      cases z : mb ρ1 h2 with
      | nx ρ6 h6 => rw [z] at q2; exact fun Φ6 H6 σ6 e6 r6 s6 => ⟨ρ6, h6, Φ6, r6, s6, okS.start e6 q2⟩
      | ct ρ6 h6 => rw [z] at q2; exact fun Φ6 H6 σ6 e6 r6 s6 => ⟨ρ6, h6, Φ6, r6, s6, okS.start e6 q2⟩
      | bk ρ6 h6 => rw [z] at q2; exact q2
      | rt v h6 => rw [z] at q2; exact q2
      | ex c fs xs ρ6 h6 => rw [z] at q2; exact q2
      | bad => rw [z] at q2; exact q2
theorem ms_while (f : Ro → PH → Nat) {c : Expr} {body : List Stmt} {mt : TMm} {mb : SM} (hp : PassesOwn (model X.prog X.w) X.A X.env X.xe) (hc : PT X c (tmT (gr X) W mt)) (hb : PSs X body (tsm (gr X) W mb)) : PS X (.While c body [] pos) (tsm (gr X) W (mWhile f mt mb)) :=
  PS_imp (ps_while hp hc hb) fun D σ H q => while_ok q
end
end Ev
/-! Ev6: what a for walks, comprehensions. -/
namespace Ev
open PySem PySem.Spec PyProof.Rows L2

/-! ### a list, a tuple, a text -/
section
variable {X : Cx} {tg : Expr}
/-- whichever of the three it is -/
theorem pi_seq {e : Expr} {te : TE} (he : PE X e te) : PI X tg e (fun σ H R => te σ H fun x H1 =>
    (∃ a, x = .ref a ∧ (∃ xs, SqL X.K H1 a xs) ∧ R (Itl X.K a) H1) ∨ (∃ a, x = .ref a ∧ (∃ xs, SqT X.K H1 a xs) ∧ R (Itt X.K a) H1) ∨ ∃ z, x = .str z ∧ R (L2.Its z) H1) := by
  refine ⟨fun pins s σ H R I h => thn (he.run pins s σ H _ I h) fun v s1 ⟨x, H1, I1, r1, q1⟩ => ?_⟩
  have mine : ∀ b, b ∈ [s1.heap.objs.size] → FpOk X pins H1 b := fun b hb => by
    rw [List.mem_singleton.mp hb]
    exact I1.fpOk (Nat.le_refl _) (I1.hok.fresh (Nat.le_refl _))
  have gone : ∀ o : Obj, Inv X pins σ H1 { s1 with heap := s1.heap.push o, toks := s1.toks } := fun o => I1.kept fun _ _ e => Heap.get?_push_of_some _ e
  rcases q1 with ⟨a, rfl, ⟨xs, hq⟩, q⟩ | ⟨a, rfl, ⟨xs, hq⟩, q⟩ | ⟨z, rfl, q⟩
  · cases r1
    obtain ⟨its, _, p, _⟩ := I1.list hq
    exact wpAny_pyIter_list p.isList ⟨_, _, _, _, H1, rfl, gone _, turn_list a _, ⟨_, Heap.get?_push_size _ rfl, rfl, rfl⟩, mine, q⟩
  · cases r1
    obtain ⟨its, _, p, _⟩ := I1.tuple hq
    exact wpAny_pyIter_tuple (show s1.heap.IsTuple a its.toArray from p) ⟨_, _, _, _, H1, rfl, gone _, turn_tuple a _, ⟨_, Heap.get?_push_size _ rfl, rfl, rfl⟩, mine, q⟩
  · obtain ⟨t, rfl⟩ := r1
    cases ha : z.cps.all (· < 128) with
    | false => exact wpAny_pyIter_wide ha ⟨_, _, _, _, H1, rfl, gone _, turn_str _ z t "str_iterator" (.inr rfl), ⟨_, Heap.get?_push_size _ rfl, rfl, rfl⟩, mine, q⟩
    | true => exact wpAny_pyIter_ascii ha ⟨_, _, _, _, H1, rfl, gone _, turn_str _ z t "str_ascii_iterator" (.inl rfl), ⟨_, Heap.get?_push_size _ rfl, rfl, rfl⟩, mine, q⟩
end
noncomputable def chkRef (n : Nat) (xs : List PV) (h : PH) : Bool := @decide (h[n]? = some (.lst xs)) (Classical.propDecidable _)
noncomputable def itRef (n : Nat) (h : PH) : Out Its := match h[n]? with
  | some (.lst xs) => .ok ⟨xs, chkRef n xs⟩ h
  | _ => .bad
theorem asL_ref {h : PH} {n : Nat} {xs : List PV} (e : h[n]? = some (.lst xs)) : asL h (.ref n) = some xs := by simp [asL, e]
noncomputable def itSeq (p : PV) (h : PH) : Out Its := match p with
  | .tup xs => .ok ⟨xs, fun _ => true⟩ h
  | .lst xs => .ok ⟨xs, fun _ => true⟩ h
  | .rol xs => .ok ⟨xs, fun _ => true⟩ h
  | .ref n => itRef n h
  | .str z => .ok ⟨z.cps.toList.map fun c => .str ⟨#[c]⟩, fun _ => true⟩ h
  | _ => .bad
noncomputable def mIt (a : EM) : IMm := fun ρ h => (a ρ h).bind fun p h1 => itSeq p h1
section
variable {G : Gr} {Φ Φ' : Fo} {H H' : Hp} {h : PH}
theorem rIt_list {a : Addr} {s : Ev.Its} (hs : ∀ Φ' H' h', Ext Φ H Φ' H' → Hr G Φ' H' h' → s.chk h' = true → ∃ vs, SqL G.K H' a vs ∧ Rs G Φ' H' s.items vs) (uniq : ∀ H' xs ys, SqL G.K H' a xs → SqL G.K H' a ys → True) :
    rIt G Φ H s (Itl G.K a) := fun Φ' H' h' e r c i => by
  obtain ⟨vs, h1, h2⟩ := hs Φ' H' h' e r c
  refine ⟨fun p hp => ?_, fun hi => ⟨vs, h1, by rw [← h2.length]; exact hi⟩⟩
  obtain ⟨v, h3, h4⟩ := h2.get hp
  refine ⟨⟨vs, v, h1, h3⟩, fun x H'' y => ?_⟩
  obtain ⟨rfl, y⟩ := y
  have e2 := y vs h1
  rw [h3] at e2
  cases e2
  exact ⟨Φ', .refl, r, h4⟩
theorem rIt_tup {a : Addr} {s : Ev.Its} (hs : ∀ Φ' H' h', Ext Φ H Φ' H' → Hr G Φ' H' h' → s.chk h' = true → ∃ vs, SqT G.K H' a vs ∧ Rs G Φ' H' s.items vs) :
    rIt G Φ H s (Itt G.K a) := fun Φ' H' h' e r c i => by
  obtain ⟨vs, h1, h2⟩ := hs Φ' H' h' e r c
  refine ⟨fun p hp => ?_, fun hi => ⟨vs, h1, by rw [← h2.length]; exact hi⟩⟩
  obtain ⟨v, h3, h4⟩ := h2.get hp
  refine ⟨⟨vs, v, h1, h3⟩, fun x H'' y => ?_⟩
  obtain ⟨rfl, y⟩ := y
  have e2 := y vs h1
  rw [h3] at e2
  cases e2
  exact ⟨Φ', .refl, r, h4⟩
theorem rIt_str {z : Str} : rIt G Φ H ⟨z.cps.toList.map fun c => .str ⟨#[c]⟩, fun _ => true⟩ (L2.Its z) := fun Φ' H' h' e r c i => by
  refine ⟨fun p hp => ?_, fun hi => ?_⟩
  · rw [List.getElem?_map] at hp
    cases q : z.cps.toList[i]? with
    | none => rw [q] at hp; cases hp
    | some k =>
      rw [q] at hp
      cases hp
      have q' : z.cps[i]? = some k := by rw [← Array.getElem?_toList]; exact q
      refine ⟨?_, fun x H'' y => ?_⟩
      · obtain ⟨hl, _⟩ := Array.getElem?_eq_some_iff.mp q'
        exact hl
      · obtain ⟨rfl, k', hk, rfl⟩ := y
        rw [q'] at hk
        cases hk
        exact ⟨Φ', .refl, r, rfl⟩
  · show z.cps.size ≤ i
    have : (z.cps.toList.map fun c => PV.str ⟨#[c]⟩).length ≤ i := hi
    simpa using this
theorem rIt_range {lo : Int} {n : Nat} : rIt G Φ H ⟨(List.range n).map fun k => .int (lo + (k : Nat)), fun _ => true⟩ (Itr lo n) := fun Φ' H' h' e r c i => by
  refine ⟨fun p hp => ?_, fun hi => ?_⟩
  · rw [List.getElem?_map] at hp
    by_cases hi : i < n
    · rw [List.getElem?_range hi] at hp
      cases hp
      refine ⟨hi, fun x H'' y => ?_⟩
      obtain ⟨rfl, rfl⟩ := y
      exact ⟨Φ', .refl, r, rfl⟩
    · rw [List.getElem?_eq_none (by rw [List.length_range]; omega)] at hp
      cases hp
  · have : ((List.range n).map fun k : Nat => PV.int (lo + k)).length ≤ i := hi
    show n ≤ i
    simpa using this
end
section
variable {X : Cx} {tg : Expr} {W : WX} {pos p : Pos} {e a b : Expr} {me ma mb : EM}
theorem mi_seq (he : PE X e (tmE (gr X) W me)) : PI X tg e (tmI (gr X) W (mIt me)) := PI_imp (pi_seq he) fun σ H R ⟨ρ, h, Φ, r, rs, q⟩ =>
  ⟨ρ, h, Φ, r, rs, okO.bind q fun p h1 Φ1 H1 x e1 r1 rp q1 => by
    cases p with
    | tup xs =>
      obtain ⟨a, vs, rfl, h2, h3⟩ := asT_ok rp (xs := xs) rfl
      refine .inr (.inl ⟨a, rfl, ⟨vs, h2⟩, q1 Φ1 H1 _ .refl r1 (rIt_tup fun Φ' H' h' e r c => ?_)⟩)
      obtain ⟨b, us, g1, g2, g3⟩ := asT_ok (rp.ext e) (xs := xs) rfl
      cases g1
      exact ⟨us, g2, g3⟩
    | lst xs =>
      obtain ⟨a, vs, rfl, h2, h3⟩ := asL_ok r1 rp (xs := xs) rfl
      refine .inl ⟨a, rfl, ⟨vs, h2⟩, q1 Φ1 H1 _ .refl r1 (rIt_list (fun Φ' H' h' e r c => ?_) fun _ _ _ _ _ => trivial)⟩
      obtain ⟨b, us, g1, g2, g3⟩ := asL_ok r (rp.ext e) (xs := xs) rfl
      cases g1
      exact ⟨us, g2, g3⟩
    | rol xs =>
      obtain ⟨a, vs, rfl, h2, h3⟩ := asL_ok r1 rp (xs := xs) rfl
      refine .inl ⟨a, rfl, ⟨vs, h2⟩, q1 Φ1 H1 _ .refl r1 (rIt_list (fun Φ' H' h' e r c => ?_) fun _ _ _ _ _ => trivial)⟩
      obtain ⟨b, us, g1, g2, g3⟩ := asL_ok r (rp.ext e) (xs := xs) rfl
      cases g1
      exact ⟨us, g2, g3⟩
    | ref n =>
      have q1 : okO (rIt (gr X)) (gr X) W R σ Φ1 H1 (itRef n h1) := q1
      unfold itRef at q1
      split at q1
      · rename_i xs ex
        obtain ⟨a, vs, rfl, h2, h3⟩ := asL_ok r1 rp (asL_ref ex)
        refine .inl ⟨a, rfl, ⟨vs, h2⟩, q1 Φ1 H1 _ .refl r1 (rIt_list (fun Φ' H' h' e r c => ?_) fun _ _ _ _ _ => trivial)⟩
        have c' : h'[n]? = some (.lst xs) := @of_decide_eq_true _ (Classical.propDecidable _) c
        obtain ⟨b, us, g1, g2, g3⟩ := asL_ok r (rp.ext e) (asL_ref c')
        cases g1
        exact ⟨us, g2, g3⟩
      · exact q1.elim
    | str z => exact .inr (.inr ⟨z, rp, q1 Φ1 H1 _ .refl r1 rIt_str⟩)
    | _ => exact q1.elim⟩
def itRange1 : List PV → PH → Out Its
  | [.int j], h => if -(2 ^ 62) ≤ j ∧ j < 2 ^ 62 then .ok ⟨(List.range j.toNat).map fun k => .int (0 + (k : Nat)), fun _ => true⟩ h else .bad
  | _, _ => .bad
def itRange2 : List PV → PH → Out Its
  | [.int i, .int j], h => if -(2 ^ 62) ≤ i ∧ i < 2 ^ 62 ∧ -(2 ^ 62) ≤ j ∧ j < 2 ^ 62 then .ok ⟨(List.range (j - i).toNat).map fun k => .int (i + (k : Nat)), fun _ => true⟩ h else .bad
  | _, _ => .bad
def mItA (f : List PV → PH → Out Its) (as : AM) : IMm := fun ρ h => (as ρ h).bind fun ps h1 => f ps h1
variable {mr : AM}
theorem mi_range1 (hm : X.mg "range" = none) (ha : PA X [a] (tmA (gr X) W mr)) (hg : Gl X "range" := by rfl) (hs : starEach [a] X.env = [(false, eval a X.env)] := by rfl) : PI X tg (.Call (.Name "range" p) [a] [] pos) (tmI (gr X) W (mItA itRange1 mr)) :=
  PI_imp (pi_range1 hg hm ha hs) fun σ H R ⟨ρ, h, Φ, r, rs, q⟩ => ⟨ρ, h, Φ, r, rs, okO.bind q fun ps h1 Φ1 H1 xs e1 r1 rp q1 => by
    unfold itRange1 at q1
    split at q1
    · rename_i j
      obtain ⟨v, rfl, rv⟩ := rp.one
      split at q1
      · rename_i hc
        exact ⟨j, by rw [show v = .int j from rv], hc.1, hc.2, q1 Φ1 H1 _ .refl r1 rIt_range⟩
      · exact q1.elim
    · exact q1.elim⟩
theorem mi_range2 (hm : X.mg "range" = none) (ha : PA X [a, b] (tmA (gr X) W mr)) (hg : Gl X "range" := by rfl) (hs : starEach [a, b] X.env = [(false, eval a X.env), (false, eval b X.env)] := by rfl) (hs2 : starEach [b] X.env = [(false, eval b X.env)] := by rfl) :
    PI X tg (.Call (.Name "range" p) [a, b] [] pos) (tmI (gr X) W (mItA itRange2 mr)) :=
  PI_imp (pi_range2 hg hm ha hs hs2) fun σ H R ⟨ρ, h, Φ, r, rs, q⟩ => ⟨ρ, h, Φ, r, rs, okO.bind q fun ps h1 Φ1 H1 xs e1 r1 rp q1 => by
    unfold itRange2 at q1
    split at q1
    · rename_i i j
      obtain ⟨v, u, rfl, rv, ru⟩ := rp.two
      split at q1
      · rename_i hc
        exact ⟨i, j, by rw [show v = .int i from rv, show u = .int j from ru], hc, q1 Φ1 H1 _ .refl r1 rIt_range⟩
      · exact q1.elim
    · exact q1.elim⟩
/-- enumerate(list) -/
def enumFrom : Nat → List PV → List PV
  | _, [] => []
  | n, p :: ps => .tup [.int (n : Nat), p] :: enumFrom (n + 1) ps
theorem enum_get : ∀ {ps : List PV} {n i : Nat} {q : PV}, (enumFrom n ps)[i]? = some q → ∃ p, ps[i]? = some p ∧ q = .tup [.int ((n + i : Nat) : Int), p]
  | [], _, _, _, e => by simp [enumFrom] at e
  | p :: ps, n, 0, q, e => by
    have e' : some (PV.tup [.int (n : Nat), p]) = some q := e
    cases e'
    exact ⟨p, rfl, rfl⟩
  | p :: ps, n, i + 1, q, e => by
    have e' : (enumFrom (n + 1) ps)[i]? = some q := e
    obtain ⟨p', h1, h2⟩ := enum_get e'
    exact ⟨p', h1, by rw [h2, Nat.add_right_comm]; rfl⟩
theorem enum_len : ∀ (ps : List PV) (n : Nat), (enumFrom n ps).length = ps.length
  | [], _ => rfl
  | p :: ps, n => by
    show (enumFrom (n + 1) ps).length + 1 = ps.length + 1
    rw [enum_len ps]
noncomputable def itEnum : List PV → PH → Out Its
  | [p], h => match asL h p with
    | some _ => (itSeq p h).bind fun s h1 => .ok ⟨enumFrom 0 s.items, s.chk⟩ h1
    | none => .bad
  | _, _ => .bad
/-- the source of a list's walk -/
theorem itSeq_list {G : Gr} {Φ : Fo} {H : Hp} {h : PH} {p : PV} {v : V} {xs : List PV} (r : Hr G Φ H h) (rp : R G Φ H p v) (ep : asL h p = some xs) : ∃ a vs s, v = .ref a ∧ SqL G.K H a vs ∧ itSeq p h = .ok s h ∧ s.items = xs ∧
    ∀ Φ' H' h', Ext Φ H Φ' H' → Hr G Φ' H' h' → s.chk h' = true → ∃ vs, SqL G.K H' a vs ∧ Rs G Φ' H' s.items vs := by
  obtain ⟨a, vs, h1, h2, h3⟩ := asL_ok r rp ep
  subst h1
  cases p with
  | lst ys =>
    cases ep
    refine ⟨a, vs, _, rfl, h2, rfl, rfl, fun Φ' H' h' e r' c => ?_⟩
    obtain ⟨b, us, g1, g2, g3⟩ := asL_ok r' (rp.ext e) rfl
    cases g1
    exact ⟨us, g2, g3⟩
  | rol ys =>
    cases ep
    refine ⟨a, vs, _, rfl, h2, rfl, rfl, fun Φ' H' h' e r' c => ?_⟩
    obtain ⟨b, us, g1, g2, g3⟩ := asL_ok r' (rp.ext e) rfl
    cases g1
    exact ⟨us, g2, g3⟩
  | ref n =>
    have ep' : (match h[n]? with
      | some (.lst xs) => some xs
      | _ => none) = some xs := ep
    cases q : h[n]? with
    | none => rw [q] at ep'; cases ep'
    | some o =>
      cases o with
      | lst ys =>
        rw [q] at ep'
        cases ep'
        refine ⟨a, vs, ⟨xs, chkRef n xs⟩, rfl, h2, ?_, rfl, fun Φ' H' h' e r' c => ?_⟩
        · show itRef n h = _
          unfold itRef
          rw [q]
        · have c' : h'[n]? = some (.lst xs) := @of_decide_eq_true _ (Classical.propDecidable _) c
          obtain ⟨b, us, g1, g2, g3⟩ := asL_ok r' (rp.ext e) (asL_ref c')
          cases g1
          exact ⟨us, g2, g3⟩
      | _ => rw [q] at ep'; cases ep'
  | _ => cases ep
theorem mi_enum {elts : List Expr} {kk : Nat} {tpos : Pos} (hm : X.mg "enumerate" = none) (ha : PA X [a] (tmA (gr X) W mr)) (hg : Gl X "enumerate" := by rfl) (hs : starEach [a] X.env = [(false, eval a X.env)] := by rfl) :
    PI X (.Tuple elts kk tpos) (.Call (.Name "enumerate" p) [a] [] pos) (tmI (gr X) W (mItA itEnum mr)) :=
  PI_imp (pi_enum hg hm ha hs) fun σ H R ⟨ρ, h, Φ, r, rs, q⟩ => ⟨ρ, h, Φ, r, rs, okO.bind q fun ps h1 Φ1 H1 xs e1 r1 rp q1 => by
    unfold itEnum at q1
    split at q1
    · rename_i p
      obtain ⟨v, rfl, rv⟩ := rp.one
      split at q1
      · rename_i ys ey
        obtain ⟨a, vs, s, rfl, h2, h3, h4, h5⟩ := itSeq_list r1 rv ey
        rw [h3] at q1
        refine ⟨a, vs, rfl, h2, q1 Φ1 H1 _ .refl r1 fun Φ' H' h' e r c i => ?_⟩
        obtain ⟨us, g1, g2⟩ := h5 Φ' H' h' e r c
        refine ⟨fun w hw => ?_, fun hi => ⟨us, g1, ?_⟩⟩
        · obtain ⟨z, k1, k2⟩ := enum_get hw
          obtain ⟨u, k3, k4⟩ := g2.get k1
          refine ⟨⟨us, u, g1, k3⟩, fun x H'' y => ?_⟩
          obtain ⟨T, u', rfl, nT, rfl, k5⟩ := y
          have k6 := k5 us g1
          rw [k3] at k6
          cases k6
          obtain ⟨a1, a2, a3⟩ := newT_ok r (xs := [.int (i : Nat), z]) (vs := [.int (i : Nat), u]) ⟨_, _, rfl, rfl, _, _, rfl, k4, rfl⟩ nT
          rw [Nat.zero_add] at k2
          rw [k2]
          exact ⟨Φ', a1, a2, a3⟩
        · have hi' : (enumFrom 0 s.items).length ≤ i := hi
          rw [enum_len, g2.length] at hi'
          exact hi'
      · exact q1.elim
    · exact q1.elim⟩
end

/-! ### comprehensions -/
def wipeR (ρ : Ro) : List Nat → Ro
  | [] => ρ
  | v :: vs => (wipeR ρ vs).set v none
theorem Ros.wipe {G : Gr} {Φ : Fo} {H : Hp} {ρ : Ro} {σ : Sl} (r : Ros G Φ H ρ σ) : ∀ vs : List Nat, Ros G Φ H (wipeR ρ vs) (wipe σ vs)
  | [] => r
  | v :: vs => by
    have ih := Ros.wipe r vs
    refine ⟨by unfold wipeR L2.wipe; rw [List.length_set, List.length_set]; exact ih.len, fun i p e => ?_⟩
    unfold wipeR at e
    unfold L2.wipe
    by_cases hv : v = i
    · subst hv
      by_cases hl : v < (wipeR ρ vs).length
      · rw [List.getElem?_set_self hl] at e; cases e
      · rw [List.getElem?_eq_none (by rw [List.length_set]; omega)] at e; cases e
    · rw [List.getElem?_set_ne hv] at e ⊢
      exact ih.at_ i p e
/-- nothing is raised out of a comprehension -/
abbrev W0 : WX := fun _ _ _ _ => False
def noEx {α : Type} : Out α → Out α
  | .ex _ _ _ _ => .bad
  | o => o
def compL (chk : PH → Bool) (t : Tg) (tt : TMm) (me : EM) (ρ : Ro) : List PV → List PV → PH → Out (List PV)
  | [], acc, h => if chk h then .ok acc h else .bad
  | p :: ps, acc, h => if chk h then (match asg t p ρ with
    | none => .bad
    | some ρ1 => (noEx (tt ρ1 h)).bind fun k h1 => if k then (noEx (me ρ1 h1)).bind fun v h2 => if acc.length < sizeLine then compL chk t tt me ρ ps (acc ++ [v]) h2 else .bad else compL chk t tt me ρ ps acc h1) else .bad
def mLc (b : Bool) (own : List Nat) (mi : IMm) (t : Tg) (tt : TMm) (me : EM) : EM := fun ρ h => (mi ρ h).bind fun s h1 => (compL s.chk t tt me (wipeR ρ own) s.items [] h1).bind fun acc h2 => .ok (newL b acc h2).1 (newL b acc h2).2
def tYes_ : TMm := fun _ h => .ok true h
theorem okO.noex {α β : Type} {rel : Rel α β} {G : Gr} {W : WX} {Q : β → Hp → Prop} {σ : Sl} {Φ : Fo} {H : Hp} {o : Out α} (q : okO rel G W Q σ Φ H (noEx o)) (W' : WX) (σ' : Sl) : okO rel G W' Q σ' Φ H o := by
  cases o with
  | ok a h => exact q
  | ex c fs xs h => exact q.elim
  | bad => exact q
section
variable {G : Gr} {Φ Φ' : Fo} {H H' : Hp} {h : PH}
/-- the comprehension's own list changes: nobody sees it -/
theorem Hr.hid {D : Addr} {o : HO} (r : Hr G Φ H h) (m : D ∈ Φ.ex) (ol : ∃ vs, o = .lst vs := by exact ⟨_, rfl⟩) : Hr G Φ (upd H D o) h ∧ Mv Φ H Φ (upd H D o) := by
  obtain ⟨ovs, rfl⟩ := ol
  have mv : Mv Φ H Φ (upd H D (.lst ovs)) := ⟨fun a u f e _ => ⟨f, by rw [upd_ne (show a ≠ D from fun z => f.2 (by rw [z]; exact m))]; exact e⟩, fun _ _ e => e⟩
  have nD := (r.exs D m).1
  refine ⟨⟨r.nd, r.len, fun a ha => ⟨(r.exs a ha).1, ?_⟩, fun n u e => ?_⟩, mv⟩
  · by_cases z : a = D
    · subst z; exact ⟨ovs, upd_same⟩
    · obtain ⟨u, e⟩ := (r.exs a ha).2
      exact ⟨u, by rw [upd_ne z]; exact e⟩
  · obtain ⟨a, h1, h2⟩ := r.ob n u e
    exact ⟨a, h1, h2.mv mv (upd_ne fun z => nD (z ▸ List.mem_of_getElem? h1))⟩
theorem okLc {mi : IMm} {t : Tg} {tt : TMm} {me : EM} {b : Bool} {own : List Nat} {W : WX} {σ : Sl} {Q : VK} (own_ok : ∀ i ∈ slots t, i ∈ own) (q : tmE G W (mLc b own mi t tt me) σ H Q) : tLc (tmI G W mi) (gTg G.K t) (tmT G W0 tt) (tmE G W0 me) own σ H Q := by
  obtain ⟨ρ, h, Φ, r, rs, q⟩ := q
  refine ⟨ρ, h, Φ, r, rs, okO.bind q fun s h1 Φ1 H1 J e1 r1 rj q1 D nD => ?_⟩
  have fD := r1.fre nD
  refine ⟨fun i m H2 => ∃ acc vs h2 Φ2, m = s.items.length - i ∧ i ≤ s.items.length ∧ Ext Φ1 H1 Φ2 H2 ∧ D ∈ Φ2.ex ∧ Hr G Φ2 H2 h2 ∧ H2 D = some (.lst vs) ∧ Rs G Φ2 H2 acc vs ∧
      okO (R G) G W Q σ Φ1 H1 ((compL s.chk t tt me (wipeR ρ own) (s.items.drop i) acc h2).bind fun acc h2 => .ok (newL b acc h2).1 (newL b acc h2).2),
    ⟨s.items.length, [], [], h1, ⟨Φ1.φ, D :: Φ1.ex⟩, rfl, Nat.zero_le _, ⟨fun a ha => List.mem_cons_of_mem _ ha, fun a ha n _ => ?_, List.prefix_rfl, fun a m k => absurd m k, fun a o _ e _ => ?_⟩, List.mem_cons_self, ?_, upd_same, rfl, q1⟩, ?_⟩
  · rcases List.mem_cons.mp ha with z | z
    · rw [z]; exact Vd.of nD
    · exact absurd z n
  · rw [upd_ne (ne_of_none e nD)]; exact e
  · have mv : Mv Φ1 H1 ⟨Φ1.φ, D :: Φ1.ex⟩ (upd H1 D (.lst [])) := by
      refine ⟨fun a u f e _ => ?_, fun _ _ e => e⟩
      have ne := ne_of_none e nD
      exact ⟨⟨f.1, fun z => (List.mem_cons.mp z).elim ne f.2⟩, by rw [upd_ne ne]; exact e⟩
    refine ⟨r1.nd, r1.len, fun a ha => ?_, fun n u e => ?_⟩
    · rcases List.mem_cons.mp ha with z | z
      · subst z; exact ⟨fD.1, _, upd_same⟩
      · obtain ⟨n, u, e⟩ := r1.exs a z
        exact ⟨n, u, by rw [upd_ne (ne_of_none e nD)]; exact e⟩
    · obtain ⟨a, h1, h2⟩ := r1.ob n u e
      exact ⟨a, h1, h2.mv mv (upd_ne fun z => fD.1 (z ▸ List.mem_of_getElem? h1))⟩
  rintro i m H2 ⟨acc, vs, h2, Φ2, rfl, hi, e2, mD, r2, hD, ra, q2⟩
  by_cases hlt : i < s.items.length
  · rw [List.drop_eq_getElem_cons hlt] at q2
    unfold compL at q2
    split at q2
    · rename_i hc
      split at q2
      · exact q2.elim
      · rename_i ρ3 e3
        obtain ⟨hgo, hy⟩ := (rj Φ2 H2 h2 e2 r2 hc i).1 _ (List.getElem?_eq_getElem hlt)
        refine .inr ⟨hgo, fun H' => ∃ acc vs h2 Φ2, Ext Φ1 H1 Φ2 H' ∧ D ∈ Φ2.ex ∧ Hr G Φ2 H' h2 ∧ H' D = some (.lst vs) ∧ Rs G Φ2 H' acc vs ∧
            okO (R G) G W Q σ Φ1 H1 ((compL s.chk t tt me (wipeR ρ own) (s.items.drop (i + 1)) acc h2).bind fun acc h2 => .ok (newL b acc h2).1 (newL b acc h2).2),
          fun H' ⟨acc', vs', h', Φ', a, b, c, d, e, f⟩ => ⟨s.items.length - (i + 1), by omega, acc', vs', h', Φ', rfl, hlt, a, b, c, d, e, f⟩, fun x H'' yx => ?_⟩
        obtain ⟨Φ4, e4, r4, rx⟩ := hy x H'' yx
        have rs4 : Ros G Φ4 H'' ρ σ := (rs.ext e1).ext (e2.trans e4)
        refine asg_ok e3 rx (rs4.wipe own) fun σ5 rs5 but => ⟨?_, ρ3, h2, Φ4, r4, rs5, ?_⟩
        · rw [but own own_ok]
          have idem : ∀ vs : List Nat, wipe (wipe σ vs) vs = wipe σ vs := by
            intro vs
            induction vs with
            | nil => rfl
            | cons v vs ih =>
              show ((wipe ((wipe σ vs).set v none) vs).set v none) = (wipe σ vs).set v none
              have gen : ∀ (ws : List Nat) (τ : Sl), (wipe (τ.set v none) ws).set v none = (wipe τ ws).set v none := by
                intro ws
                induction ws with
                | nil => intro τ; show (τ.set v none).set v none = τ.set v none; rw [List.set_set]
                | cons w ws ih2 =>
                  intro τ
                  show ((wipe (τ.set v none) ws).set w none).set v none = ((wipe τ ws).set w none).set v none
                  by_cases hw : w = v
                  · subst hw; rw [List.set_set, List.set_set]; exact ih2 τ
                  · rw [List.set_comm _ _ hw, ih2 τ, List.set_comm _ _ hw]
              rw [gen vs (wipe σ vs), ih]
          exact idem own
        · have D4 : H'' D = some (.lst vs) := e4.keep D _ (r2.exs D mD).1 hD fun _ z => nomatch z
          have m4 : D ∈ Φ4.ex := e4.exs D mD
          have base : ∀ {o : Out Bool} {k : Bool → PH → Out (List PV)}, okO (R G) G W Q σ Φ1 H1 (((noEx o).bind k).bind fun acc h2 => .ok (newL b acc h2).1 (newL b acc h2).2) →
              (∀ c h5 Φ5 H5, Ext Φ4 H'' Φ5 H5 → Hr G Φ5 H5 h5 → okO (R G) G W Q σ Φ1 H1 ((k c h5).bind fun acc h2 => .ok (newL b acc h2).1 (newL b acc h2).2) →
                (if c = true then tmE G W0 me σ5 H5 fun y H6 => ∃ acc, H6 D = some (.lst acc) ∧ acc.length < sizeLine ∧ (∃ acc2 vs h2 Φ2, Ext Φ1 H1 Φ2 (upd H6 D (.lst (acc ++ [y]))) ∧ D ∈ Φ2.ex ∧ Hr G Φ2 (upd H6 D (.lst (acc ++ [y]))) h2 ∧ (upd H6 D (.lst (acc ++ [y]))) D = some (.lst vs) ∧ Rs G Φ2 (upd H6 D (.lst (acc ++ [y]))) acc2 vs ∧
            okO (R G) G W Q σ Φ1 H1 ((compL s.chk t tt me (wipeR ρ own) (s.items.drop (i + 1)) acc2 h2).bind fun acc h2 => .ok (newL b acc h2).1 (newL b acc h2).2)) else
                  ∃ acc vs h2 Φ2, Ext Φ1 H1 Φ2 H5 ∧ D ∈ Φ2.ex ∧ Hr G Φ2 H5 h2 ∧ H5 D = some (.lst vs) ∧ Rs G Φ2 H5 acc vs ∧
            okO (R G) G W Q σ Φ1 H1 ((compL s.chk t tt me (wipeR ρ own) (s.items.drop (i + 1)) acc h2).bind fun acc h2 => .ok (newL b acc h2).1 (newL b acc h2).2))) →
              okO rB G W0 (fun c H5 => if c = true then tmE G W0 me σ5 H5 fun y H6 => ∃ acc, H6 D = some (.lst acc) ∧ acc.length < sizeLine ∧ (∃ acc2 vs h2 Φ2, Ext Φ1 H1 Φ2 (upd H6 D (.lst (acc ++ [y]))) ∧ D ∈ Φ2.ex ∧ Hr G Φ2 (upd H6 D (.lst (acc ++ [y]))) h2 ∧ (upd H6 D (.lst (acc ++ [y]))) D = some (.lst vs) ∧ Rs G Φ2 (upd H6 D (.lst (acc ++ [y]))) acc2 vs ∧
            okO (R G) G W Q σ Φ1 H1 ((compL s.chk t tt me (wipeR ρ own) (s.items.drop (i + 1)) acc2 h2).bind fun acc h2 => .ok (newL b acc h2).1 (newL b acc h2).2)) else
                  ∃ acc vs h2 Φ2, Ext Φ1 H1 Φ2 H5 ∧ D ∈ Φ2.ex ∧ Hr G Φ2 H5 h2 ∧ H5 D = some (.lst vs) ∧ Rs G Φ2 H5 acc vs ∧
            okO (R G) G W Q σ Φ1 H1 ((compL s.chk t tt me (wipeR ρ own) (s.items.drop (i + 1)) acc h2).bind fun acc h2 => .ok (newL b acc h2).1 (newL b acc h2).2)) σ5 Φ4 H'' o := by
            intro o k qq st
            cases o with
            | ok c h5 => exact fun Φ5 H5 c' e5 r5 ec => by cases ec; exact st c h5 Φ5 H5 e5 r5 qq
            | ex c fs xs h5 => exact qq.elim
            | bad => exact qq.elim
          refine base q2 fun c h5 Φ5 H5 e5 r5 q5 => ?_
          have D5 : H5 D = some (.lst vs) := e5.keep D _ (r4.exs D m4).1 D4 fun _ z => nomatch z
          have m5 : D ∈ Φ5.ex := e5.exs D m4
          have ra5 : Rs G Φ5 H5 acc vs := ra.ext (e4.trans e5)
          cases c with
          | false =>
            rw [if_neg Bool.false_ne_true] at q5 ⊢
            exact ⟨acc, vs, h5, Φ5, e2.trans (e4.trans e5), m5, r5, D5, ra5, q5⟩
          | true =>
            rw [if_pos rfl] at q5 ⊢
            refine ⟨ρ3, h5, Φ5, r5, rs5.ext e5, ?_⟩
            cases z : me ρ3 h5 with
            | ex c fs xs h6 => rw [z] at q5; exact q5.elim
            | bad => rw [z] at q5; exact q5.elim
            | ok v h6 =>
              rw [z] at q5
              intro Φ6 H6 y e6 r6 ry
              have q5' : okO (R G) G W Q σ Φ1 H1 ((if acc.length < sizeLine then compL s.chk t tt me (wipeR ρ own) (s.items.drop (i + 1)) (acc ++ [v]) h6 else .bad).bind fun acc h2 => .ok (newL b acc h2).1 (newL b acc h2).2) := q5
              split at q5'
              · rename_i hz
                have m6 : D ∈ Φ6.ex := e6.exs D m5
                obtain ⟨r7, mv⟩ := r6.hid (o := .lst (vs ++ [y])) m6
                refine ⟨vs, e6.keep D _ (r5.exs D m5).1 D5 (fun _ z => nomatch z), by rw [← ra.length]; exact hz, acc ++ [v], vs ++ [y], h6, Φ6, ?_, m6, r7, upd_same, ((ra5.ext e6).snoc ry).mv mv, q5'⟩
                have e9 := (e2.trans e4).trans (e5.trans e6)
                exact ⟨e9.exs, e9.exn, e9.pre, e9.new, fun a o k e nt => by rw [upd_ne (ne_of_none e nD)]; exact e9.keep a o k e nt⟩
              · exact q5'.elim
    · exact q2.elim
  · have hi' : i = s.items.length := by omega
    subst hi'
    rw [List.drop_length] at q2
    unfold compL at q2
    split at q2
    · rename_i hc
      refine .inl ⟨(rj Φ2 H2 h2 e2 r2 hc _).2 (Nat.le_refl _), ?_⟩
      have nφ := (r2.exs D mD).1
      have wk : Mv Φ2 H2 ⟨Φ2.φ, Φ1.ex⟩ H2 := ⟨fun a u f e _ => ⟨⟨f.1, fun z => f.2 (e2.exs a z)⟩, e⟩, fun _ _ e => e⟩
      have rw' : Hr G ⟨Φ2.φ, Φ1.ex⟩ H2 h2 := ⟨r2.nd, r2.len, fun a ha => r2.exs a (e2.exs a ha), fun n u e => let ⟨a, x, y⟩ := r2.ob n u e; ⟨a, x, y.mv wk rfl⟩⟩
      have ew : Ext Φ1 H1 ⟨Φ2.φ, Φ1.ex⟩ H2 := ⟨fun _ z => z, fun _ z n _ => absurd z n, e2.pre, e2.new, e2.keep⟩
      have rD : R G ⟨Φ2.φ, Φ1.ex⟩ H2 (.lst acc) (.ref D) := ⟨D, vs, rfl, ⟨nφ, fD.2⟩, hD, ra.mv wk⟩
      cases b with
      | false => exact q2 _ H2 _ ew rw' rD
      | true =>
        have pre : Φ2.φ <+: Φ2.φ ++ [D] := List.prefix_append _ _
        have mv2 : Mv ⟨Φ2.φ, D :: Φ1.ex⟩ H2 ⟨Φ2.φ ++ [D], Φ1.ex⟩ H2 := by
          refine ⟨fun a u f e _ => ⟨⟨fun z => ?_, fun z => f.2 (List.mem_cons_of_mem _ z)⟩, e⟩, fun n a e => ?_⟩
          · rcases List.mem_append.mp z with z | z
            · exact f.1 z
            · exact f.2 (by rw [List.mem_singleton.mp z]; exact List.mem_cons_self)
          · show (Φ2.φ ++ [D])[n]? = some a
            rw [List.getElem?_append_left (List.getElem?_eq_some_iff.mp e).1]
            exact e
        have wk2 : Mv Φ2 H2 ⟨Φ2.φ, D :: Φ1.ex⟩ H2 := ⟨fun a u f e _ => ⟨⟨f.1, fun z => (List.mem_cons.mp z).elim (fun y => f.2 (y ▸ mD)) fun y => f.2 (e2.exs a y)⟩, e⟩, fun _ _ e => e⟩
        have mv3 : Mv Φ2 H2 ⟨Φ2.φ ++ [D], Φ1.ex⟩ H2 := ⟨fun a u f e nt => mv2.fr a u (wk2.fr a u f e nt).1 e nt, fun n a e => mv2.ref n a e⟩
        refine q2 ⟨Φ2.φ ++ [D], Φ1.ex⟩ H2 (.ref D) ⟨fun _ z => z, fun _ z n _ => absurd z n, e2.pre.trans pre, fun a z n => ?_, fun a o n e nt => e2.keep a o n e nt⟩ ⟨?_, ?_, fun a z => ?_, fun n u e => ?_⟩ ⟨D, ?_, rfl⟩
        · rcases List.mem_append.mp z with z | z
          · exact e2.new a z n
          · rw [List.mem_singleton.mp z]; exact Vd.of nD
        · refine List.nodup_append.mpr ⟨r2.nd, by simp, fun a ha c hc => ?_⟩
          rw [List.mem_singleton.mp hc]
          rintro rfl
          exact nφ ha
        · show (Φ2.φ ++ [D]).length = (h2 ++ [PO.lst acc]).length
          rw [List.length_append, List.length_append, r2.len]
          rfl
        · obtain ⟨x, y⟩ := r2.exs a (e2.exs a z)
          refine ⟨fun w => ?_, y⟩
          rcases List.mem_append.mp w with w | w
          · exact x w
          · exact fD.2 (by rw [← List.mem_singleton.mp w]; exact z)
        · have e' : (h2 ++ [PO.lst acc])[n]? = some u := e
          by_cases hn : n < h2.length
          · rw [List.getElem?_append_left hn] at e'
            obtain ⟨a, x, y⟩ := r2.ob n u e'
            exact ⟨a, mv3.ref n a x, y.mv mv3 rfl⟩
          · have hn' : n = h2.length := by
              have := (List.getElem?_eq_some_iff.mp e').1
              simp at this; omega
            subst hn'
            simp at e'
            subst e'
            exact ⟨D, by show (Φ2.φ ++ [D])[h2.length]? = some D; rw [← r2.len]; simp, vs, hD, ra.mv mv3⟩
        · show (Φ2.φ ++ [D])[h2.length]? = some D
          rw [← r2.len]; simp
    · exact q2.elim
end
section
variable {X : Cx} {W : WX}
theorem mts_nil : PTs X [] (tmT (gr X) W tYes_) := ⟨fun pins s σ H Q I ⟨ρ, h, Φ, r, rs, q⟩ => pts_nil.run pins s σ H Q I (q Φ H true .refl r rfl)⟩
theorem mts_one {c : Expr} {t : TMm} (h : PT X c (tmT (gr X) W t)) : PTs X [c] (tmT (gr X) W t) := pts_one h
variable {elt tg iter : Expr} {ifs : List Expr} {scope : Scope} {own : List (Str × Nat)} {pos : Pos} {mi : IMm} {t : Tg} {g : TG} {tt : TMm} {me : EM}
/-- [elt for tg in iter if ..] as a value -/
theorem me_lc (b : Bool) (hc : X.calm = true) (hN : X.N.Nodup) (hi : PI X tg iter (tmI (gr X) W mi)) (ok : BlkOk X.N X.env.scope scope own)
    (hg : ∀ (s : Shared) (H : Hp) (C : Addr) (cl : List (Str × Addr)) (fp : List Addr), PG (X.blk s H scope (compEnvC scope cl C X.env) fp) tg g)
    (ht : ∀ (s : Shared) (H : Hp) (C : Addr) (cl : List (Str × Addr)) (fp : List Addr), PTs (X.blk s H scope (compEnvC scope cl C X.env) fp) ifs (tmT (gr X) W0 tt))
    (he : ∀ (s : Shared) (H : Hp) (C : Addr) (cl : List (Str × Addr)) (fp : List Addr), PE (X.blk s H scope (compEnvC scope cl C X.env) fp) elt (tmE (gr X) W0 me))
    (eg : g = gTg X.K t := by rfl) (so : ∀ i ∈ slots t, i ∈ own.map (·.2) := by decide) (hs : ∀ x, foldedSetIterable iter X.env x = pure x := by intro _; rfl) :
    PE X (.ListComp elt [⟨tg, iter, ifs, 0⟩] scope pos) (tmE (gr X) W (mLc b (own.map (·.2)) mi t tt me)) := by
  subst eg
  exact PE_imp (pe_lc hc hN hi ok hg ht he hs) fun σ H Q q => okLc so q
/-- name = [..] on one line -/
theorem ms_lc (b : Bool) (i : Nat) {y : Str} {py spos : Pos} (hc : X.calm = true) (hN : X.N.Nodup) (hsw : swapsWith (.ListComp elt [⟨tg, iter, ifs, 0⟩] scope pos) (some (.Name y py)) spos.line X.env = pure true)
    (hi : PI X tg iter (tmI (gr X) W mi)) (ok : BlkOk X.N X.env.scope scope own)
    (hg : ∀ (s : Shared) (H : Hp) (C : Addr) (cl : List (Str × Addr)) (fp : List Addr), PG (X.blk s H scope (compEnvC scope cl C X.env) fp) tg g)
    (ht : ∀ (s : Shared) (H : Hp) (C : Addr) (cl : List (Str × Addr)) (fp : List Addr), PTs (X.blk s H scope (compEnvC scope cl C X.env) fp) ifs (tmT (gr X) W0 tt))
    (he : ∀ (s : Shared) (H : Hp) (C : Addr) (cl : List (Str × Addr)) (fp : List Addr), PE (X.blk s H scope (compEnvC scope cl C X.env) fp) elt (tmE (gr X) W0 me))
    (hy : X.N[i]? = some y := by rfl) (hyl : X.env.scope.names.lookup y = some .local := by rfl) (eg : g = gTg X.K t := by rfl) (so : ∀ i ∈ slots t, i ∈ own.map (·.2) := by decide) (hs : ∀ x, foldedSetIterable iter X.env x = pure x := by intro _; rfl) :
    PS X (.Assign [.Name y py] (.ListComp elt [⟨tg, iter, ifs, 0⟩] scope pos) spos) (tsm (gr X) W (mAsg (.nm i) (mLc b (own.map (·.2)) mi t tt me))) := by
  subst eg
  exact PS_imp (ps_setLc hc hN hy hyl hsw hi ok hg ht he hs) fun D σ H q => asgn_ok (t := .nm i) (fun σ H Q q => okLc so q) D σ H q
end
end Ev
set_option maxHeartbeats 2000000
/-! An own error with one field, line: class X(..ValueError): def __init__(self, line): super().__init__(line); self.line = line. The frame of the proof is that of the skeleton 42, its __init__ walked at the code that super() asks for. -/
namespace PySem
namespace FldX_line
open PySem.W PySem.Calls PyProof.Rows PySem.HandSPX
/-! ### the text of __init__ -/
abbrev fld : Str := "line"
def iA (p1 p2 : Pos) : Arguments := { posonlyargs := [], args := [{ arg := "self", annotation := none, pos := p1 }, { arg := fld, annotation := none, pos := p2 }], vararg := none, kwonlyargs := [], kw_defaults := [], kwarg := none, defaults := [] }
structure Ps where
  a : Pos
  b : Pos
  c : Pos
  d : Pos
  e : Pos
  f : Pos
  g : Pos
  h : Pos
  i : Pos
  j : Pos
def iB (q : Ps) : List Stmt :=
  [.Expr (.Call (.Attribute (.Call (.Name "super" q.a) [] [] q.b) "__init__" q.c) [.Name fld q.d] [] q.e) q.f, .Assign [.Attribute (.Name "self" q.g) fld q.h] (.Name fld q.i) q.j]
def iS : Scope := { kind := .function, names := [(PySem.Str.ofString "self", .local), (fld, .local), (PySem.Str.ofString "__class__", .free), (PySem.Str.ofString "super", .globalImplicit)], isGenerator := false, isCoroutine := false, more := [] }
/-- how the call of super().__init__ is read (where the text stands on one line) -/
def MethEv (q : Ps) : Prop := ∃ pl : Sem Bool, ∀ env : Env, eval (.Call (.Attribute (.Call (.Name "super" q.a) [] [] q.b) "__init__" q.c) [.Name fld q.d] [] q.e) env = (do
  let ov ← attributeBase (.Call (.Name "super" q.a) [] [] q.b) "__init__" env (eval (.Call (.Name "super" q.a) [] [] q.b) env)
  standAt q.c.atName
  let (f, first) ← holding [ov] (getMethod ov "__init__" pl)
  callWith q.e f first (backTo q.e (starEach [.Name fld q.d] env)) [])
/-- what the written part says of the class at C, and of its __init__, at fI -/
structure Txt (q : Ps) (prog : Program) (K : Frag) (mg : Str → Option Value) (cn : Str) (C fI : Addr) : Prop where
  hev : MethEv q
  gC : mg cn = some (.ref C)
  gs : mg "super" = none
  cls : ∃ nm q N bs bm sn sub ab col dd k0 k1 k2 k3 k5, K.lookup C = some (excClassObj nm q C N bs bm true sn sub ab col dd k0 k1 k2 k3 k5 "ValueError.__new__") ∧ refsVE bm = true
  sa : findIn K (.ref C) "__setattr__" = some (some (.builtin "object.__setattr__"))
  ga : findIn K (.ref C) "__getattribute__" = some (some (.builtin "BaseException.__getattribute__"))
  gg : findIn K (.ref C) "__getattr__" = some none
  noN : findIn K (.ref C) fld = some none
  iC : findIn K (.ref C) "__init__" = some (some (.ref fI))
  tC : typeIn K (.ref fI) = some (.type "function")
  kC : keepIn K (.ref C) = true
  exC : subIn K (.ref C) (.type "BaseException") = some true
  tyC : typeIn K (.ref C) = some (.type "type")
  hdC : hasDictIn K C = true
  hB : subIn K (.ref C) (.type "ValueError") = some true
  hm : ks_superIn K C C "__init__" = some (some (.builtin "ValueError.__init__"))
  hs : mroIn K C (.ref C) = some true
  ho : nsIn K cStatics "thirdparty.any" = some none
  htop : (prog.main.scope.names.lookup ("super" : Str)).isSome = false
  fn : ∃ (oc : Value) (od : Option Addr) (doc pm : Value) (an : Option Addr) (cda cc : Addr) (ct : Value) (osl : Array (Option Value)) (p1 p2 : Pos) (cl ccl : Value) (cld cdd : Option Addr) (csl ccs : Array (Option Value)) (vs : Array Value) (file : Str) (tf : Tok) (qi : Str),
    K.lookup fI = some ⟨oc, od, .func (ksFn "__init__" qi (iA p1 p2) (iB q) iS .none .none doc pm an (.ref cda) ct cc), osl⟩ ∧ codeIn K (.ref cda) qi = true ∧
    K.lookup cc = some ⟨cl, cld, .cell (some (.ref C)), csl⟩ ∧ K.lookup cda = some ⟨ccl, cdd, .fields vs, ccs⟩ ∧ vs[2]? = some (.str file tf) ∧ ((prog.main.file : Str) == file) = true
theorem one_size (v : Value) : [v].length ≤ sizeLine := by
  rw [sizeLine_eq]
  exact (by decide : 1 ≤ 16777216)
/-- what __init__ leaves of a fresh exception at x -/
structure InitEnd (h h' : Heap) (x C dx t1 : Addr) (v : Value) : Prop where
  keep : ∀ b o, b ≠ x → h.get? b = some o → h'.get? b = some o
  obj : h'.get? x = some { cls := .ref C, dict := some dx, data := .fields #[.ref t1, .none, .none, .none, .bool false, .none] }
  dbig : h.objs.size ≤ dx
  dne : dx ≠ x
  ns : h'.Ns1 dx (fun y => if y = fld then some v else none)
/-- a made one -/
structure OwnMade (h h' : Heap) (e C d : Addr) (v : Value) : Prop where
  keep : ∀ b o, h.get? b = some o → h'.get? b = some o
  new : h.objs.size ≤ e
  obj : ∃ oe vs, h'.get? e = some oe ∧ oe.cls = .ref C ∧ oe.dict = some d ∧ oe.data = .fields vs ∧ vs[1]? = some .none
  dbig : h.objs.size ≤ d
  dne : d ≠ e
  ns : h'.Ns1 d (fun y => if y = fld then some v else none)
section
variable {prog : Program} {w : World} {A : Around} {E : Value → Shared → Prop} {R : Result → Shared → Prop} {s : Shared} {K : Frag} {mg : Str → Option Value} {cn : Str} {C fI : Addr} {q : Ps}
theorem init_walk (T : Txt q prog K mg cn C fI) {base : Heap} (kb : ∀ b o, base.get? b = some o → s.heap.get? b = some o) (md : L2.Mod K mg base) {x t0 : Addr} {v : Value} (hx : s.heap.get? x = some (excO C t0)) (hnb : base.get? x = none) (hroom : A.depth < recursionLimit)
    (hq : ∀ h' tk t1 dx, InitEnd s.heap h' x C dx t1 v → R (.ok (.ret .none)) { s with heap := h', toks := tk }) :
    codeAny (model prog w) A (.call (.ref fI) ⟨[.ref x, v], []⟩) R s := by
  obtain ⟨oc, od, doc, pm, an, cda, cc, ct, osl, p1, p2, cl, ccl, cld, cdd, csl, ccs, vs, file, tf, qi, hf, hcd, hcell, hcode, hvs, hfile⟩ := T.fn
  obtain ⟨nm, qn, N, bs, bm, sn, sub, ab, col, dd, k0, k1, k2, k3, k5, hC, hbm⟩ := T.cls
  have hcl : clsIn K C = some { name := nm, bases := bs, mro := .ref C :: bm, ns := N, qualname := qn, hasDict := true, slotNames := sn, subclasses := sub, abstract := ab, collection := col, hasDel := false } := by unfold clsIn; rw [hC] <;> rfl
  have X : K.In s.heap := md.kin.keeps kb
  have lim : s.heap.NoLimit := md.nolimit.keeps kb
  have l1 : iS.names.lookup ("self" : Str) = some .local := rfl
  have l2 : iS.names.lookup fld = some .local := rfl
  have l3 : iS.names.lookup ("__class__" : Str) = some .free := rfl
  have l4 : iS.names.lookup ("super" : Str) = some .globalImplicit := rfl
  refine ks_codeAny_call_defAt (fd := ksFn "__init__" qi (iA p1 p2) (iB q) iS .none .none doc pm an (.ref cda) ct cc) (body := iB q) (binds := [("self", .ref x), (fld, v)]) hroom (X _ _ hf) rfl lim (codeRec_of X hcd) rfl
    (.of_eq ?bind) ?hcell ?hloc (fun h₁ hns hk₁ => ?_) rfl rfl rfl
  case bind => first | rfl | with_unfolding_all rfl
  case hcell =>
    intro y hy
    have hy' : y ∈ iS.names := hy
    unfold iS at hy'
    simp only [List.mem_cons, List.not_mem_nil, or_false] at hy'
    rcases hy' with rfl | rfl | rfl | rfl <;> exact fun z => nomatch z
  case hloc =>
    intro y hy
    simp only [List.mem_cons, List.not_mem_nil, or_false] at hy
    rcases hy with rfl | rfl
    · exact l1
    · exact l2
  have X₁ : K.In h₁ := X.keeps hk₁
  have kb₁ : ∀ b o, base.get? b = some o → h₁.get? b = some o := fun b o e => hk₁ b o (kb b o e)
  have hx₁ : h₁.get? x = some (excO C t0) := hk₁ _ _ hx
  obtain ⟨oD, hD1, hD2⟩ : ∃ oD, h₁.get? C = some oD ∧ ∃ cd, oD.data = .cls cd := ⟨_, X₁ _ _ hC, _, rfl⟩
  obtain ⟨cdD, hD2⟩ := hD2
  obtain ⟨mb, hb1, hb2⟩ := md.blt
  have hself : (fun y => ([("self", .ref x), (fld, v)] : List (Str × Value)).reverse.lookup y) "self" = some (.ref x) := rfl
  have hfld : (fun y => ([("self", .ref x), (fld, v)] : List (Str × Value)).reverse.lookup y) fld = some v := rfl
  have hxC : x ≠ C := fun z => by
    rw [z, X₁ _ _ hC] at hx₁
    have z2 := Option.some.inj hx₁
    have z3 := congrArg Obj.data z2
    cases z3
  obtain ⟨pl, hev⟩ := T.hev
  unfold iB
  refine ks_wpAt_execs_cons (ks_wpAt_Expr_any (ks_wpAt_MethodCall (pl := pl) (he := hev _) (ks_wpAt_super_base (env := callEnv (ksFn "__init__" qi (iA p1 p2) _ iS .none .none doc pm an (.ref cda) ct cc) s.heap.objs.size fI) l4 l3 (by decide) rfl (X₁ _ _ hf) rfl rfl rfl (X₁ _ _ hcode) rfl hvs hfile T.htop ?_)))
  refine ks_loadName_global rfl l4 (loadGlobal_builtin (md.glob.keeps kb₁) T.gs (hb1.keeps kb₁) ((hb2 _ (by decide)).trans rfl) ⟨rfl, ?_⟩)
  refine wpAny_loadName_free rfl l3 rfl ⟨_, X₁ _ _ hcell, rfl⟩ ?_
  refine wpAny_loadName_local rfl l1 hns hself ?_
  refine ks_wpAny_isType_cls hD1 hD2 ⟨rfl, ?_⟩
  refine ks_wpAny_call_super hD1 hD2 hx₁ rfl (fun c z => nomatch z) (looks_mroIn X₁ T.hs) (fun h₂ e₂ k₂ => ?_)
  -- the method, bound to the exception
  have X₂ : K.In h₂ := X₁.keeps k₂
  have hx₂ : h₂.get? x = some (excO C t0) := k₂ _ _ hx₁
  have IA : InstAt h₂ x (excO C t0) C none := ⟨hx₂, rfl, rfl, trivial⟩
  refine kxs_getMethod kxs_ValueError e₂ (looks_opaque X₂ T.ho) (l₀ := .ref C :: bm) (fun A Q E s k q => wpAny_bind ((looks_clsIn X₂ hcl) A _ E s k (wpAny_pure q))) rfl X₂ ?hm (IA.type.andThen (looks_subIn X₂ T.hB)) hxC (by decide) ?_
  case hm =>
    have z := T.hm
    unfold ks_superIn at z
    rw [hcl] at z
    exact z
  -- the argument
  have hns₂ : h₂.Ns s.heap.objs.size fun y => ([("self", .ref x), (fld, v)] : List (Str × Value)).reverse.lookup y := hns.keeps k₂
  refine kxs_callWith (i := "ValueError.__init__") (x := x) rfl (evalArgs_plain (spliced_cons ?_))
  refine wpAny_Name (wpAny_loadName_local rfl l2 (hns₂.keeps (fun b o e => Heap.get?_push_of_some _ e)) hfld ?_) (by decide)
  refine spliced_nil ⟨Heap.get?_push_size _ rfl, ?_⟩
  -- the built-in __init__
  refine wpAny_call (codeAny_of_tree ?_)
  show wpAny _ _ (callAny (.ref h₂.objs.size) ⟨[v], []⟩) _ _ _
  simp only [callAny]
  refine wpAny_bind (wpAny_load (Heap.get?_push_size h₂ rfl) ?_)
  simp only [kxs_mw, show (Value.type "method-wrapper" == Value.type "method" || Value.type "method-wrapper" == Value.type "builtin_function_or_method" || Value.type "method-wrapper" == Value.type "method-wrapper") = true by decide, if_true]
  refine KFB.if_so (by decide) ?_
  have k₃ : ∀ b o, h₂.get? b = some o → (h₂.push (kxs_mw "ValueError.__init__" x)).get? b = some o := fun b o e => Heap.get?_push_of_some _ e
  refine wpAny_bind (check_bound_init F.excBase_ValueError.toExcCallFacts (k₃ _ _ (X₂ _ _ hC)) (k₃ _ _ hx₂) rfl ?_)
  refine wpAny_bind (wpAny_pure (wpAny_pure ?_))
  refine ⟨plainId_quiet F.excBase_ValueError.init.plain _, codeAny_builtin F.excBase_ValueError.initEntry ?_⟩
  refine exc_init_tree (cls := .ref C) (t0 := t0) (dv := none) (c2 := .none) (c3 := .none) (b4 := .bool false) (k₃ _ _ hx₂) (one_size v) (fun h₄ k₄ hx₄ _ => ?_)
  -- self.line = line
  have k14 : ∀ b o, b ≠ x → h₁.get? b = some o → h₄.get? b = some o := fun b o hb e => k₄ b o hb (k₃ b o (k₂ b o e))
  have hxL : s.heap.objs.size ≠ x := Nat.ne_of_gt (Heap.lt_size hx)
  have hnx : K.lookup x = none := by
    cases e : K.lookup x with
    | none => rfl
    | some o =>
      have z : base.get? x = some o := md.kin _ _ e
      rw [hnb] at z; cases z
  have X₄ : K.In h₄ := fun a o e => k14 a o (fun z => by rw [z, hnx] at e; cases e) (X₁ a o e)
  have hns₄ : h₄.Ns s.heap.objs.size fun y => ([("self", .ref x), (fld, v)] : List (Str × Value)).reverse.lookup y := by
    obtain ⟨o, es, ep, ho, r⟩ := hns
    exact ⟨o, es, ep, k14 _ _ hxL ho, r⟩
  refine wpAt_of_wpAny (wpAny_execs_cons (plainObj_wpAny_Assign_Attribute ?_))
  refine wpAny_Name (wpAny_loadName_local rfl l2 hns₄ hfld ?_) (by decide)
  refine wpAny_Name (wpAny_loadName_local rfl l1 hns₄ hself ?_) (by decide)
  refine set_plain X₄ (ox := excO C (h₂.push (kxs_mw "ValueError.__init__" x)).objs.size) (od := none) ⟨hx₄, rfl, rfl, trivial⟩ T.sa ?_
  refine exc_osa X₄ hx₄ hcl (show refsVE (.ref C :: bm) = true from hbm) rfl T.noN (fun h₅ tk₅ dx k₅ dn dne hx₅ hn₅ => ?_)
  have sz : ∀ {b o}, s.heap.get? b = some o → b ≠ x → h₅.get? b = some o := fun {b o} e hb => k₅ b o hb (k14 b o hb (hk₁ b o e))
  have big : s.heap.objs.size ≤ dx := by
    have z : s.heap.objs.size < h₄.objs.size := hns₄.lt
    exact Nat.le_trans (Nat.le_of_lt z) dn
  exact wpAny_execs_nil (hq h₅ tk₅ _ dx ⟨fun b o hb e => sz e hb, hx₅, big, dne, hn₅⟩)
theorem made (T : Txt q prog K mg cn C fI) {base : Heap} {v : Value} (kb : ∀ b o, base.get? b = some o → s.heap.get? b = some o) (md : L2.Mod K mg base) (hroom : A.depth + 1 < recursionLimit)
    (hq : ∀ h' tk e d, OwnMade s.heap h' e C d v → R (.ok (.ret (.ref e))) { s with heap := h', toks := tk }) :
    codeAny (model prog w) A (.call (.ref C) ⟨[v], []⟩) R s := by
  obtain ⟨nm, qn, N, bs, bm, sn, sub, ab, col, dd, k0, k1, k2, k3, k5, hC, hbm⟩ := T.cls
  have X : K.In s.heap := md.kin.keeps kb
  obtain ⟨hp, g, dr, tk, os⟩ := s
  have k : ∀ b o, hp.get? b = some o → ((hp.push (kdv_tup [v])).push (excO C hp.objs.size)).get? b = some o := fun b o e => Heap.get?_push_of_some _ (Heap.get?_push_of_some _ e)
  have hget : ((hp.push (kdv_tup [v])).push (excO C hp.objs.size)).get? (hp.objs.size + 1) = some (excO C hp.objs.size) := by heap_get
  have hnb : base.get? (hp.objs.size + 1) = none := by
    cases e : base.get? (hp.objs.size + 1) with
    | none => rfl
    | some o => exact absurd (Nat.lt_of_succ_lt (Heap.lt_size (kb _ _ e))) (Nat.lt_irrefl _)
  refine call_own F.excBase_ValueError (fun X => refsVE_contains X bm hbm) (X _ _ hC) (looks_findIn X T.iC) (fun self => bind_fn X self T.tC) (one_size v) ?_
  refine init_walk (s := ⟨(hp.push (kdv_tup [v])).push (excO C hp.objs.size), g, dr, tk, os⟩) T (fun b o e => k b o (kb b o e)) md hget hnb ?_ fun h' tk' t1 dx ⟨k', hx, dn, dne, hns⟩ => ?_
  · show A.depth + 1 < recursionLimit
    exact hroom
  · have old : ∀ b o, hp.get? b = some o → h'.get? b = some o := fun b o e => k' b o (Nat.ne_of_lt (Nat.lt_succ_of_lt (Heap.lt_size e))) (k b o e)
    have z : hp.objs.size + 1 + 1 ≤ dx := by
      first
        | (simpa only [Heap.size_push] using dn)
        | exact dn
        | (have q := dn; rw [Heap.size_push, Heap.size_push] at q; exact q)
    exact ⟨rfl, hq h' tk' (hp.objs.size + 1) dx ⟨old, Nat.le_succ _, ⟨_, _, hx, rfl, rfl, rfl, rfl⟩, Nat.le_trans (Nat.le_trans (Nat.le_succ _) (Nat.le_succ _)) z, dne, hns⟩⟩
end
end FldX_line
end PySem
namespace Ev
namespace X_line
open PySem PySem.Spec PyProof.Rows L2
open PySem.FldX_line (fld Txt)
theorem relO_fld {v : V} {v' : Value} (r : RelV v v') (f : Str) : RelO (List.lookup f [(fld, v)]) (if f = fld then some v' else none) := by
  by_cases hw : f = fld
  · subst hw
    rw [if_pos rfl]
    have q : List.lookup fld [(fld, v)] = some v := by simp [List.lookup]
    rw [q]
    exact r
  · rw [if_neg hw]
    have qw : (f == fld) = false := by simpa using hw
    have q2 : List.lookup f [(fld, v)] = none := by simp [List.lookup, qw]
    rw [q2]
    trivial
section
variable {X : Cx} {q : PySem.FldX_line.Ps} {cn : Str} {C fI : Addr}
/-- X(e) -/
def tMk (C : Addr) (ta : TA) : Sl → Hp → XK → Prop := fun σ H Q => ta σ H fun vs H1 => ∃ v, vs = [v] ∧ ∀ d, H1 d = none → Q (.ref C) (some d) (upd H1 d (.xd [(fld, v)]))
theorem pmk {a : Expr} {ta : TA} {p pos : Pos} {k : Nat} (T : Txt q X.prog X.K X.mg cn C fI) (hr : Room k X.A) (ha : PA X [a] ta) (hg : Gl X cn) (hd : (cn == ("__debug__" : Str)) = false)
    (he : starEach (a :: []) X.env = (false, eval a X.env) :: starEach [] X.env := by rfl) (hpl : (backTo pos (starEach [] X.env)).any (·.1) = false := by rfl) :
    PMk X (.Call (.Name cn p) [a] [] pos) (tMk C ta) := by
  intro pins s σ H Q I h
  refine wpAny_Call_Name_kw (ld_glob I hg T.gC ?_ hd)
  refine PySem.W.callWith_K (h₀ := X.base) I.ok.mod.kin T.kC (thn (ha.run pos pins s σ H _ I h) fun us s1 hh => ?_) he hpl
  obtain ⟨vs, H1, I1, r1, v, ev, q1⟩ := hh
  subst ev
  refine ⟨I1.kIn, ?_⟩
  cases r1 with
  | cons rv rn =>
    rename_i v' us'
    cases rn
    show wpAny _ _ (call (.ref C) [v']) _ _ _
    have kb := I1.bk
    obtain ⟨hp, g, dr, tk, os⟩ := s1
    refine wpAny_call (PySem.FldX_line.made T kb I1.ok.mod (by have := hr.dp; omega) fun h' tk' e d M => ?_)
    show MkP X pins σ Q (.ref e) ⟨h', g, dr, tk', os⟩
    obtain ⟨oe, fv, hoe, hc, hd, hdat, h1⟩ := M.obj
    have hns := M.ns
    obtain ⟨G', g1, g2⟩ := restrict h' fun b => decide (b ≠ e)
    have gk : ∀ b, b ≠ e → G'.get? b = h'.get? b := fun b hb => g1 b (decide_eq_true hb)
    have ge : G'.get? e = none := g2 e (by simp)
    have old : ∀ b o, hp.get? b = some o → G'.get? b = some o := fun b o q => (gk b (Nat.ne_of_lt (Nat.lt_of_lt_of_le (Heap.lt_size q) M.new))).trans (M.keep b o q)
    have ob : ObjOk X.prog X.w (upd H1 d (.xd [(fld, v)])) G' d (.xd [(fld, v)]) :=
      ⟨_, hns.at (fun o q => (gk d M.dne).trans q), fun f => relO_fld rv f⟩
    have J : Inv X pins σ (upd H1 d (.xd [(fld, v)])) ⟨G', g, dr, tk', os⟩ := I1.laid (t' := tk') old M.dbig ob
    refine ⟨e, oe, fv, ⟨G', g, dr, tk', os⟩, _, .ref C, some d, rfl, J, fun b o q => ?_, ge, hoe, ⟨hc, hd⟩, hdat, h1, ?_, rfl, I1.bare, raises_own T.exC T.tyC, q1 d (I1.hok.fresh M.dbig)⟩
    · by_cases hb : b = e
      · have q' : G'.get? b = some o := q
        rw [hb, ge] at q'; cases q'
      · exact (gk b hb).symm.trans q
    · rw [upd_ne (Ne.symm M.dne)]
      exact I1.hok.fresh M.new
/-- raise X(e) -/
def mRaise (cn : Str) (as : AM) : SM := fun ρ h => (as ρ h).st ρ fun ps h1 => match ps with
  | [p] => .ex cn [fld] [p] ρ h1
  | _ => .bad
theorem ms_raise {W : WX} {a : Expr} {mr : AM} {p pos pos2 : Pos} {k : Nat} (hc : X.calm = true) (T : Txt q X.prog X.K X.mg cn C fI) (hr : Room k X.A) (tk : Takes X W) (ha : PA X [a] (tmA (gr X) W mr)) (hg : Gl X cn := by rfl) (hd : (cn == ("__debug__" : Str)) = false := by decide)
    (he : starEach (a :: []) X.env = (false, eval a X.env) :: starEach [] X.env := by rfl) (hpl : (backTo pos (starEach [] X.env)).any (·.1) = false := by rfl) :
    PS X (.Raise (some (.Call (.Name cn p) [a] [] pos)) none pos2) (tsm (gr X) W (mRaise cn mr)) := PS_imp (ps_raise hc tk (pmk T hr ha hg hd he hpl)) fun D σ H ⟨ρ, h, Φ, r, rs, q⟩ =>
  ⟨ρ, h, Φ, r, rs, okS.st rs q fun ps h1 Φ1 H1 xs e1 r1 rp q1 => by
    split at q1
    · rename_i p
      obtain ⟨v, rfl, rv⟩ := rp.one
      refine ⟨v, rfl, fun d nd => ?_⟩
      have e2 : Ext Φ1 H1 Φ1 (upd H1 d (.xd [(fld, v)])) := Ext.laid r1 nd
      exact q1 Φ1 _ C (some d) σ e2 (r1.laid nd) ((rs.ext e1).ext e2) T.gC (.inr ⟨d, [(fld, v)], rfl, (fun z => nomatch z), r1.fre nd, upd_same, rfl, v, [], rfl, rv.ext e2, rfl⟩)
    · exact q1.elim⟩
end
end X_line
end Ev
/-! Ev7: stores to items, raise, a def by its body. -/
namespace Ev
open PySem PySem.Spec PyProof.Rows L2

/-! ### xs[i] = e -/
def fSetL (p q v : PV) (h : PH) : Option PH := match p, q with
  | .ref n, .int k => match h[n]? with
    | some (.lst xs) => (ixN xs.length k).map fun j => h.set n (.lst (xs.set j v))
    | _ => none
  | _, _ => none
def mSetI (o i e : EM) : SM := fun ρ h => (e ρ h).st ρ fun v h1 => (o ρ h1).st ρ fun p h2 => (i ρ h2).st ρ fun q h3 => match fSetL p q v h3 with
  | some h4 => .nx ρ h4
  | none => .bad
section
variable {X : Cx} {W : WX} {o i e : Expr} {mo mi me : EM} {p pos : Pos}
theorem ms_seti (he : PE X e (tmE (gr X) W me)) (ho : PE X o (tmE (gr X) W mo)) (hi : PE X i (tmE (gr X) W mi))
    (ha : ∀ v, assign (.Subscript o i p) X.env v = (do
      let ov ← holding [v] (eval o X.env)
      let iv ← holding [v, ov] (eval i X.env)
      standAt p
      holding [v, ov, iv] (setItem ov iv v)
      release [v, ov, iv] []) := by intro _; rfl)
    (hs : swapsWithSole [.Subscript o i p] e pos.line X.env = pure false := by rfl) (hw : swappedStores [.Subscript o i p] e X.env = pure none := by rfl)
    (h1 : (assignEach [.Subscript o i p] X.env).map (·.2) = [assign (.Subscript o i p) X.env] := by rfl) : PS X (.Assign [.Subscript o i p] e pos) (tsm (gr X) W (mSetI mo mi me)) :=
  PS_imp (ps_asg he (pg_sub ho hi set_list ha) hs hw h1) fun D σ H ⟨ρ, h, Φ, r, rs, q⟩ =>
    ⟨ρ, h, Φ, r, rs, okS.st rs q fun v h1 Φ1 H1 x e1 r1 rv q1 => ⟨ρ, h1, Φ1, r1, rs.ext e1, okS.st (rs.ext e1) q1 fun p h2 Φ2 H2 y e2 r2 rp q2 =>
      ⟨ρ, h2, Φ2, r2, (rs.ext e1).ext e2, okS.st ((rs.ext e1).ext e2) q2 fun q h3 Φ3 H3 z e3 r3 rq q3 => by
        split at q3
        · rename_i h4 e4
          unfold fSetL at e4
          split at e4
          · rename_i n k
            split at e4
            · rename_i xs ex
              cases ej : ixN xs.length k with
              | none => rw [ej] at e4; cases e4
              | some j =>
                rw [ej] at e4
                cases e4
                obtain ⟨a, g1, vs, g2, g3⟩ := r3.ob n _ ex
                obtain ⟨b, g4, g5⟩ := rp.ext e3
                rw [g1] at g4; cases g4
                have ew : Ext Φ3 H3 Φ3 (upd H3 a (.lst (vs.set j x))) := Ext.wrote g1
                refine ⟨a, vs, k, j, g5, rq, g2, by rw [← g3.length]; exact ej, q3 Φ3 _ σ ew (r3.wrote g1 ⟨_, upd_same, ?_⟩) ((((rs.ext e1).ext e2).ext e3).ext ew)⟩
                exact (g3.set j ((rv.ext e2).ext e3)).ext ew
            · cases e4
          · cases e4
        · exact q3.elim⟩⟩⟩
end

/-! ### raise X() -/
section
variable {X : Cx} {W : WX} {pos pos2 : Pos}
theorem pmk_own0 {C : Addr} {bmB : List Value} {B newId initId : String} {x : Str} {p : Pos} (F : ExcBaseFacts B newId initId bmB) (q : PySem.W.excIn X.K C bmB newId = true) (gC : X.mg x = some (.ref C))
    (kC : PySem.W.keepIn X.K (.ref C) = true) (r : Raises X (.ref C)) (hg : Gl X x) (hdb : (x == ("__debug__" : Str)) = false) : PMk X (.Call (.Name x p) [] [] pos) (fun _ H Q => Q (.ref C) none H) := by
  intro pins s σ H Q I h
  obtain ⟨bm, N, nm, qn, bs, hdct, sn, sub, ab, col, dd, k0, k1, k2, k3, k5, mN, hC, hN, hni, T⟩ := exc_obj I.kIn q
  have made : wpAny (model X.prog X.w) X.A (call (.ref C) []) (MkP X pins σ Q) X.xe s :=
    wpAny_call_exc_subT F T hC hN hni (fun h' e hm => mk_of I hm r h (I.hok.gone hm.new)) (Nat.zero_le _)
  exact wpAny_Call_Name_kw (ld_glob I hg gC (PySem.W.callWith_K0 I.kIn kC made) hdb)
/-- what is asked of an own error class without __init__ of its own, over ValueError -/
structure Ex0 (K : PySem.W.Frag) (mg : Str → Option Value) (x : Str) (C : Addr) : Prop where
  g : mg x = some (.ref C)
  q : PySem.W.excIn K C [.type "ValueError", .type "Exception", .type "BaseException", .type "object"] "ValueError.__new__" = true
  k : PySem.W.keepIn K (.ref C) = true
  b : PySem.W.subIn K (.ref C) (.type "BaseException") = some true
  t : PySem.W.typeIn K (.ref C) = some (.type "type")
def mRaise0 (x : Str) : SM := fun ρ h => .ex x [] [] ρ h
theorem ms_raise0 {x : Str} {C : Addr} {p : Pos} (hc : X.calm = true) (T : Ex0 X.K X.mg x C) (tk : Takes X W) (hg : Gl X x := by rfl) (hdb : (x == ("__debug__" : Str)) = false := by decide) :
    PS X (.Raise (some (.Call (.Name x p) [] [] pos)) none pos2) (tsm (gr X) W (mRaise0 x)) :=
  PS_imp (ps_raise hc tk (pmk_own0 PySem.F.excBase_ValueError T.q T.g T.k (raises_own T.b T.t) hg hdb)) fun D σ H ⟨ρ, h, Φ, r, rs, q⟩ => q Φ H C none σ .refl r rs T.g (.inl ⟨rfl, rfl, rfl⟩)
end

/-! ### a def's own objects are told by content when it is left -/
mutual
def sub (f : Nat → PV) : PV → PV
  | .ref n => f n
  | .tup xs => .tup (subs f xs)
  | .lst xs => .lst (subs f xs)
  | .rol xs => .rol (subs f xs)
  | .dct ks xs => .dct ks (subs f xs)
  | .ins c fs xs => .ins c fs (subs f xs)
  | .non => .non
  | .bl b => .bl b
  | .int i => .int i
  | .str x => .str x
  | .ty n => .ty n
  | .gl x => .gl x
  | .err a c d fs xs => .err a c d fs (subs f xs)
def subs (f : Nat → PV) : List PV → List PV
  | [] => []
  | p :: ps => sub f p :: subs f ps
end
mutual
/-- no reference from n on -/
def cl (n : Nat) : PV → Bool
  | .ref m => decide (m < n)
  | .tup xs => cls n xs
  | .lst xs => cls n xs
  | .rol xs => cls n xs
  | .dct _ xs => cls n xs
  | .ins _ _ xs => cls n xs
  | .non => true
  | .bl _ => true
  | .int _ => true
  | .str _ => true
  | .ty _ => true
  | .gl _ => true
  | .err _ _ _ _ xs => cls n xs
def cls (n : Nat) : List PV → Bool
  | [] => true
  | p :: ps => cl n p && cls n ps
end
def subO (f : Nat → PV) : PO → PO
  | .tab P q => .tab P q
  | .lst xs => .lst (subs f xs)
  | .dct ks xs => .dct ks (subs f xs)
  | .ins c fs xs => .ins c fs (subs f xs)
def clO (n : Nat) : PO → Bool
  | .tab _ _ => true
  | .lst xs => cls n xs
  | .dct _ xs => cls n xs
  | .ins _ _ xs => cls n xs
def toP : PO → (List PV → List PV) → PV
  | .tab _ _, _ => .non
  | .lst xs, g => .lst (g xs)
  | .dct ks xs, g => .dct ks (g xs)
  | .ins c fs xs, g => .ins c fs (g xs)
/-- the objects from n on, by content, k deep -/
def res (h : PH) (n : Nat) : Nat → Nat → PV
  | 0, m => .ref m
  | k + 1, m => if m < n then .ref m else match h[m]? with
    | some (.tab _ _) => .ref m
    | some o => toP o (subs (res h n k))
    | none => .ref m
def outF (frz : Bool) (n : Nat) (v : PV) (h : PH) : Out PV :=
  if h.length = n ∨ frz = false then .ok v h else
    if cl n (sub (res h n 5) v) && ((h.take n).map (subO (res h n 5))).all (clO n) then .ok (sub (res h n 5) v) ((h.take n).map (subO (res h n 5))) else .bad
def outX (frz : Bool) (n : Nat) (c : Str) (fs : List Str) (xs : List PV) (h : PH) : Out PV :=
  if h.length = n ∨ frz = false then .ex c fs xs h else
    if cls n (subs (res h n 5) xs) && ((h.take n).map (subO (res h n 5))).all (clO n) then .ex c fs (subs (res h n 5) xs) ((h.take n).map (subO (res h n 5))) else .bad
def mDef (n sl : Nat) (frz : Bool) (body : SM) : DF := fun ps h => if ps.length = n then (match body (ps.map some ++ List.replicate (sl - n) none) h with
  | .nx _ h1 => outF frz h.length .non h1
  | .rt v h1 => outF frz h.length v h1
  | .ex c fs xs _ h1 => outX frz h.length c fs xs h1
  | _ => .bad) else .bad
theorem mDef_len {n sl : Nat} {frz : Bool} {body : SM} {ps : List PV} {h : PH} (e : mDef n sl frz body ps h ≠ .bad) : ps.length = n := by
  unfold mDef at e
  by_cases hl : ps.length = n
  · exact hl
  · rw [if_neg hl] at e; exact absurd rfl e
section
variable {G : Gr} {Φ Φ' : Fo} {H : Hp} {n : Nat} {f : Nat → PV}
mutual
theorem sub_ok (fr : ∀ a, Fr Φ a → Fr Φ' a) (hf : ∀ m v, R G Φ H (.ref m) v → cl n (f m) = true → R G Φ' H (f m) v) : ∀ {p : PV} {v : V}, R G Φ H p v → cl n (sub f p) = true → R G Φ' H (sub f p) v
  | .ref m, v, r, c => hf m v r c
  | .tup xs, v, r, c => by
    obtain ⟨a, vs, h1, h2, h3⟩ := r
    exact ⟨a, vs, h1, h2.imp (fun q => ⟨fr a q.1, q.2⟩) (fun q => q), subs_ok fr hf h3 c⟩
  | .lst xs, v, r, c => by
    obtain ⟨a, vs, h1, h2, h3, h4⟩ := r
    exact ⟨a, vs, h1, fr a h2, h3, subs_ok fr hf h4 c⟩
  | .rol xs, v, r, c => by
    obtain ⟨a, vs, h1, h2, h3⟩ := r
    exact ⟨a, vs, h1, h2.imp (fun q => ⟨fr a q.1, q.2⟩) (fun q => q), subs_ok fr hf h3 c⟩
  | .dct ks xs, v, r, c => by
    obtain ⟨a, kvs, h1, h2, h3, h4, h5⟩ := r
    exact ⟨a, kvs, h1, fr a h2, h3, h4, subs_ok fr hf h5 c⟩
  | .ins cn fs xs, v, r, c => by
    obtain ⟨a, C, dx, kvs, h1, h2, h3, h4, h5, h6⟩ := r
    exact ⟨a, C, dx, kvs, h1, h2, fr a h3, h4, h5, subs_ok fr hf h6 c⟩
  | .non, _, r, _ => r
  | .bl _, _, r, _ => r
  | .int _, _, r, _ => r
  | .str _, _, r, _ => r
  | .ty _, _, r, _ => r
  | .gl _, _, r, _ => r
  | .err _ _ _ _ _, _, r, c => by
    obtain ⟨h1, h2⟩ := r
    refine ⟨h1, h2.imp (fun z => z) fun z => ?_⟩
    obtain ⟨kvs, k1, k2, k3, k4⟩ := z
    exact ⟨kvs, fr _ k1, k2, k3, subs_ok fr hf k4 c⟩
theorem subs_ok (fr : ∀ a, Fr Φ a → Fr Φ' a) (hf : ∀ m v, R G Φ H (.ref m) v → cl n (f m) = true → R G Φ' H (f m) v) : ∀ {p : List PV} {v : List V}, Rs G Φ H p v → cls n (subs f p) = true → Rs G Φ' H (subs f p) v
  | [], _, r, _ => r
  | p :: ps, _, r, c => by
    obtain ⟨v, vr, h1, h2, h3⟩ := r
    have c' := Bool.and_eq_true_iff.mp c
    exact ⟨v, vr, h1, sub_ok fr hf h2 c'.1, subs_ok fr hf h3 c'.2⟩
end
end
section
variable {G : Gr} {Φ : Fo} {H : Hp} {n : Nat} {h : PH}
theorem res_ok (r : Hr G Φ H h) : ∀ (k m : Nat) (v : V), R G Φ H (.ref m) v → cl n (res h n k m) = true → R G ⟨Φ.φ.take n, Φ.ex⟩ H (res h n k m) v := by
  have fr : ∀ a, Fr Φ a → Fr ⟨Φ.φ.take n, Φ.ex⟩ a := fun a f => ⟨fun z => f.1 (List.mem_of_mem_take z), f.2⟩
  have low : ∀ m v, R G Φ H (.ref m) v → m < n → R G ⟨Φ.φ.take n, Φ.ex⟩ H (.ref m) v := fun m v ⟨a, h1, h2⟩ hm => ⟨a, by show (Φ.φ.take n)[m]? = some a; rw [List.getElem?_take_of_lt hm]; exact h1, h2⟩
  intro k
  induction k with
  | zero => exact fun m v rv c => low m v rv (of_decide_eq_true c)
  | succ k ih =>
    intro m v rv c
    unfold res at c ⊢
    split
    · rename_i hm
      exact low m v rv hm
    · rename_i hm
      rw [if_neg hm] at c
      cases e : h[m]? with
      | none =>
        rw [e] at c
        exact absurd (of_decide_eq_true (show decide (m < n) = true from c)) hm
      | some o =>
        rw [e] at c
        obtain ⟨a, h1, ho⟩ := r.ob m o e
        obtain ⟨b, h2, rfl⟩ := rv
        rw [h1] at h2; cases h2
        have na : Fr ⟨Φ.φ.take n, Φ.ex⟩ a := by
          refine ⟨fun z => hm ?_, fun z => (r.exs a z).1 (List.mem_of_getElem? h1)⟩
          obtain ⟨i, hi, ei⟩ := List.getElem_of_mem z
          rw [List.getElem_take] at ei
          have hin : i < n := by rw [List.length_take] at hi; omega
          obtain ⟨l1, e1⟩ := List.getElem?_eq_some_iff.mp h1
          have := (List.getElem_inj r.nd).mp (ei.trans e1.symm)
          omega
        cases o with
        | tab P q =>
          exact absurd (of_decide_eq_true (show decide (m < n) = true from c)) hm
        | lst xs =>
          obtain ⟨vs, g1, g2⟩ := ho
          exact ⟨a, vs, rfl, na, g1, subs_ok fr ih g2 c⟩
        | dct ks xs =>
          obtain ⟨kvs, g1, g2, g3⟩ := ho
          exact ⟨a, kvs, rfl, na, .inl g1, g2, subs_ok fr ih g3 c⟩
        | ins cn fs xs =>
          obtain ⟨C, dx, kvs, g1, g2, g3, g4⟩ := ho
          exact ⟨a, C, dx, kvs, rfl, g1, na, g2, g3, subs_ok fr ih g4 c⟩
theorem frz_ok (r : Hr G Φ H h) (hn : n ≤ h.length) (c : ((h.take n).map (subO (res h n 5))).all (clO n) = true) : Hr G ⟨Φ.φ.take n, Φ.ex⟩ H ((h.take n).map (subO (res h n 5))) := by
  have fr : ∀ a, Fr Φ a → Fr ⟨Φ.φ.take n, Φ.ex⟩ a := fun a f => ⟨fun z => f.1 (List.mem_of_mem_take z), f.2⟩
  refine ⟨r.nd.sublist (List.take_sublist _ _), ?_, fun a ha => ⟨fun z => (r.exs a ha).1 (List.mem_of_mem_take z), (r.exs a ha).2⟩, fun m o e => ?_⟩
  · show (Φ.φ.take n).length = _
    rw [List.length_take, List.length_map, List.length_take, r.len]
  · rw [List.getElem?_map] at e
    cases q : (h.take n)[m]? with
    | none => rw [q] at e; cases e
    | some o' =>
      rw [q] at e
      cases e
      have hm : m < n := by
        have := (List.getElem?_eq_some_iff.mp q).1
        rw [List.length_take] at this; omega
      have q' : h[m]? = some o' := by rw [List.getElem?_take_of_lt hm] at q; exact q
      obtain ⟨a, h1, ho⟩ := r.ob m o' q'
      refine ⟨a, by show (Φ.φ.take n)[m]? = some a; rw [List.getElem?_take_of_lt hm]; exact h1, ?_⟩
      have c' : clO n (subO (res h n 5) o') = true := List.all_eq_true.mp c _ (List.mem_map_of_mem (List.mem_of_getElem? q))
      cases o' with
      | tab P q =>
        obtain ⟨g0, ps, g1, g2, g3⟩ := ho
        exact ⟨g0, ps, g1, g2, fun pos cv hc => let ⟨c, e1, e2, e3⟩ := g3 pos cv hc; ⟨c, e1, fr c e2, e3⟩⟩
      | lst xs =>
        obtain ⟨vs, g1, g2⟩ := ho
        exact ⟨vs, g1, subs_ok fr (res_ok r 5) g2 c'⟩
      | dct ks xs =>
        obtain ⟨kvs, g1, g2, g3⟩ := ho
        exact ⟨kvs, g1, g2, subs_ok fr (res_ok r 5) g3 c'⟩
      | ins cn fs xs =>
        obtain ⟨C, dx, kvs, g1, g2, g3, g4⟩ := ho
        exact ⟨C, dx, kvs, g1, g2, g3, subs_ok fr (res_ok r 5) g4 c'⟩
end
section
variable {G : Gr} {Φ : Fo} {H : Hp} {h h1 : PH} {frz : Bool} {W : WX} {Q : VK}
/-- the frame is left: what is known then -/
theorem left_ext {Φ' : Fo} {H' : Hp} (r : Hr G Φ H h) (e : Ext Φ H Φ' H') : Ext Φ H ⟨Φ'.φ.take h.length, Φ'.ex⟩ H' := by
  have hl : Φ'.φ.take h.length = Φ.φ := by
    obtain ⟨t, ht⟩ := e.pre
    rw [← ht, ← r.len, List.take_left]
  refine ⟨e.exs, e.exn, by rw [hl]; exact List.prefix_rfl, fun a m n => absurd (by rw [hl] at m; exact m) n, e.keep⟩
theorem outF_ok {v : PV} (r : Hr G Φ H h) (q : okO (R G) G W Q [] Φ H (outF frz h.length v h1)) : ∀ Φ' H' u, Ext Φ H Φ' H' → Hr G Φ' H' h1 → R G Φ' H' v u → Q u H' := fun Φ' H' u e r' rv => by
  unfold outF at q
  split at q
  · exact q Φ' H' u e r' rv
  · split at q
    · rename_i c
      have c' := Bool.and_eq_true_iff.mp c
      have hn : h.length ≤ h1.length := by
        rw [← r.len, ← r'.len]
        exact e.pre.length_le
      exact q _ H' u (left_ext r e) (frz_ok r' hn c'.2) (sub_ok (Φ := Φ') (Φ' := ⟨Φ'.φ.take h.length, Φ'.ex⟩) (fun a f => ⟨fun z => f.1 (List.mem_of_mem_take z), f.2⟩) (res_ok r' 5) rv c'.1)
    · exact q.elim
theorem outX_ok {c : Str} {fs : List Str} {xs : List PV} (r : Hr G Φ H h) (q : okO (R G) G W Q [] Φ H (outX frz h.length c fs xs h1)) :
    ∀ Φ' H' C d, Ext Φ H Φ' H' → Hr G Φ' H' h1 → G.mg c = some (.ref C) → XR G Φ' H' d fs xs → W (.ref C) d [] H' := fun Φ' H' C d e r' m x => by
  unfold outX at q
  split at q
  · exact q Φ' H' C d e r' m x
  · split at q
    · rename_i cc
      have c' := Bool.and_eq_true_iff.mp cc
      have hn : h.length ≤ h1.length := by
        rw [← r.len, ← r'.len]
        exact e.pre.length_le
      have fr : ∀ a, Fr Φ' a → Fr ⟨Φ'.φ.take h.length, Φ'.ex⟩ a := fun a f => ⟨fun z => f.1 (List.mem_of_mem_take z), f.2⟩
      refine q _ H' C d (left_ext r e) (frz_ok r' hn c'.2) m ?_
      rcases x with ⟨z1, z2, z3⟩ | ⟨e', kvs, z1, z0, z2, z3, z4, z5⟩
      · subst z3; exact .inl ⟨z1, z2, rfl⟩
      · exact .inr ⟨e', kvs, z1, z0, fr _ z2, z3, z4, subs_ok fr (res_ok r' 5) z5 c'.1⟩
    · exact q.elim
end
theorem Ros.start {G : Gr} {Φ : Fo} {H : Hp} {N : List Str} {qs : List PV} {vs : List V} (rs : Rs G Φ H qs vs) : Ros G Φ H (qs.map some ++ List.replicate (N.length - qs.length) none) (start N vs) := by
  unfold L2.start
  refine ⟨by rw [List.length_append, List.length_append, List.length_map, List.length_map, List.length_replicate, List.length_replicate, rs.length], fun i p e => ?_⟩
  by_cases hi : i < qs.length
  · rw [List.getElem?_append_left (by rw [List.length_map]; exact hi), List.getElem?_map] at e
    cases q : qs[i]? with
    | none => rw [q] at e; cases e
    | some p' =>
      rw [q] at e
      cases e
      obtain ⟨v, h1, h2⟩ := rs.get q
      refine ⟨v, ?_, h2⟩
      rw [List.getElem?_append_left (by rw [List.length_map, ← rs.length]; exact hi), List.getElem?_map, h1]
      rfl
  · rw [List.getElem?_append_right (by rw [List.length_map]; omega), List.getElem?_replicate] at e
    split at e <;> cases e
section
variable {P : Program} {w : World} {K : PySem.W.Frag} {mg : Str → Option Value} {base : Heap}
/-- a def's reading, by what its body means -/
theorem def_ok {G : Gr} {N : List Str} {n : Nat} {body : SM} {frz : Bool} {vs : List V} {H : Hp} {Q : VK} {E : XK} (q : spM G n (mDef n N.length frz body) vs H Q E) :
    tsm G (fun cls d _ H => E cls d H) body { nx := fun _ H' => Q .non H', rt := Q } (start N vs) H := by
  obtain ⟨hl, qs, h, Φ, r, rs, q⟩ := q
  unfold mDef at q
  have hq : qs.length = n := by rw [rs.length]; exact hl
  rw [if_pos hq] at q
  subst hq
  refine ⟨qs.map some ++ List.replicate (N.length - qs.length) none, h, Φ, r, Ros.start rs, ?_⟩
  cases z : body (qs.map some ++ List.replicate (N.length - qs.length) none) h with
  | nx ρ h1 => rw [z] at q; exact fun Φ' H' σ' e r' _ => outF_ok r q Φ' H' .non e r' rfl
  | rt v h1 => rw [z] at q; exact fun Φ' H' u e r' rv => outF_ok r q Φ' H' u e r' rv
  | bk ρ h1 => rw [z] at q; exact q.elim
  | ct ρ h1 => rw [z] at q; exact q.elim
  | ex c fs xs ρ h1 => rw [z] at q; exact fun Φ' H' C d σ' e r' _ m x => outX_ok r q Φ' H' C d e r' m x
  | bad => rw [z] at q; exact q.elim
/-- THE RULE: a def by what its body means -/
theorem FnM.of {x qual : Str} {st : Stmt} {f : Addr} {fd : FuncData} {N ps : List Str} {k : Nat} {body : SM} (frz : Bool) (F : Fun K x qual st f fd) (S : FnScope N ps (defScope st))
    (hb : ∀ (cdv : Value) (A : Around) (outer : List Env) (s : Shared) (H : Hp) (E : XK), Room k (A.deeper (envOfC qual (defScope st) s.heap.objs.size f cdv)) →
      PSs (cxOf (L2.CX P w) P w K mg base N qual (defScope st) f cdv A outer s H E) (defBody st) (tsm ⟨K, mg⟩ (fun cls d _ H => E cls d H) body)) : FnM P w K mg base (k + 1) f fd ps (mDef ps.length N.length frz body) :=
  F.okX S (fun vs H Q E h => h.1) fun cdv A outer s H vs Q E hr h => ⟨_, hb cdv A outer s H E hr, def_ok h⟩
end
theorem FnM_bad {P : Program} {w : World} {K : PySem.W.Frag} {mg : Str → Option Value} {base : Heap} {k : Nat} {f : Addr} {fd : FuncData} {ps : List Str} : FnM P w K mg base k f fd ps (fun _ _ => .bad) :=
  ⟨fun vs H Q E h => h.1, fun A outer s H args us vs Q E _ _ _ _ h => let ⟨_, _, _, _, _, _, q⟩ := h; q.elim⟩
end Ev
/-! Ev8: sequences backwards, lists unpacked, empty dicts. -/
namespace Ev
open PySem PySem.Spec PyProof.Rows L2

/-! ### t[::-1] -/
section
variable {prog : Program} {w : World} {A : Around} {E : Value → Shared → Prop} {s : Shared}
theorem adjust_rev (n : Nat) : Builtin.Slice.sliceAdjust none none (-1) (n : Int) = ((n : Int) - 1, -1) := rfl
theorem places_rev (n : Nat) : Builtin.Slice.slicePlaces ((n : Int) - 1) (-1) (-1) = n := by
  unfold Builtin.Slice.slicePlaces
  have h1 : ¬ ((-1 : Int) > 0) := by omega
  simp only [h1, if_false, show (-(-1 : Int)) = 1 from rfl, Int.ediv_one]
  split <;> omega
theorem applied_rev {sl : Addr} {vl vu vs : Value} {n : Nat} {Q : Int × Int × Nat → Shared → Prop} (hs : s.heap.IsSliceOf sl vl vu vs) (pl : IsPart vl none) (pu : IsPart vu none) (ps : IsPart vs (some (-1)))
    (h : Q ((n : Int) - 1, -1, n) s) : wpAny (model prog w) A (Builtin.Slice.sliceApplied (.ref sl) (pure (n : Int))) Q E s := by
  obtain ⟨os, hos, hcs, hds⟩ := id hs
  unfold Builtin.Slice.sliceApplied Builtin.Slice.sliceFields
  refine wpAny_bind (wpAny_bind (wpAny_field hos hds (x := vl) rfl (wpAny_bind (wpAny_field hos hds (x := vu) rfl (wpAny_bind (wpAny_field hos hds (x := vs) rfl (wpAny_pure ?_)))))))
  refine wpAny_bind (HT.slicePart_ ps ?_)
  show wpAny _ _ (if ((-1 : Int) == 0) = true then _ else _) _ _ s
  rw [if_neg (by decide)]
  refine wpAny_bind (HT.slicePart_ pl (wpAny_bind (HT.slicePart_ pu (wpAny_bind (wpAny_pure ?_)))))
  show wpAny _ _ (match Builtin.Slice.sliceAdjust none none (-1) (n : Int) with | (lo, hi) => pure (lo, (-1 : Int), Builtin.Slice.slicePlaces lo hi (-1))) _ _ s
  rw [adjust_rev]
  show wpAny _ _ (pure ((n : Int) - 1, (-1 : Int), Builtin.Slice.slicePlaces ((n : Int) - 1) (-1) (-1))) _ _ s
  rw [places_rev]
  exact wpAny_pure h
theorem fm_congr {α β : Type} {f g : α → Option β} : ∀ {l : List α}, (∀ x, x ∈ l → f x = g x) → l.filterMap f = l.filterMap g
  | [], _ => rfl
  | x :: l, h => by
    rw [List.filterMap_cons, List.filterMap_cons, h x (List.mem_cons_self ..), fm_congr (l := l) fun y hy => h y (List.mem_cons_of_mem _ hy)]
theorem pick_rev (xs : Array Value) : ((List.range xs.size).filterMap fun (m : Nat) => xs[(((xs.size : Int) - 1) + (m : Int) * (-1)).toNat]?).toArray = xs.toList.reverse.toArray := by
  have e : (List.range xs.size).filterMap (fun (m : Nat) => xs[(((xs.size : Int) - 1) + (m : Int) * (-1)).toNat]?) = ((List.range xs.size).map fun k => xs.size - 1 - k).filterMap (xs[·]?) := by
    rw [List.filterMap_map]
    refine fm_congr fun m hm => ?_
    have := List.mem_range.mp hm
    show xs[(((xs.size : Int) - 1) + (m : Int) * (-1)).toNat]? = xs[xs.size - 1 - m]?
    congr 1
    omega
  rw [e, PySem.W.krv_range, List.filterMap_reverse, PySem.W.krv_all]
theorem getItem_rev {t sl : Addr} {items : Array Value} {vl vu vs : Value} {Q : Value → Shared → Prop} (ht : IsTup s.heap t items) (hs : s.heap.IsSliceOf sl vl vu vs) (pl : IsPart vl none) (pu : IsPart vu none) (ps : IsPart vs (some (-1)))
    (h : Q (.ref s.heap.objs.size) { s with heap := s.heap.push { cls := .type "tuple", data := .seq items.toList.reverse.toArray } }) (hsz : items.size ≤ sizeLine) : wpAny (model prog w) A (getItem (.ref t) (.ref sl)) Q E s := by
  have hfit : sizeOk (.seq items.toList.reverse.toArray) := by
    show items.toList.reverse.toArray.size ≤ sizeLine
    rw [List.size_toArray, List.length_reverse, Array.length_toList]
    exact hsz
  obtain ⟨os, hos, hcs, hds⟩ := id hs
  have hTs : s.TypeIs (.ref sl) "slice" := ⟨os, hos, hcs⟩
  unfold getItem
  try with_reducible refine wpAny_holding ?_
  first | refine wpAny_bind (wpAny_pure ?_) | skip
  refine wpAny_bind (wpAny_sequenceKey ht.typeIs (by decide) ?_)
  refine wpAny_bind (wpAny_callSpecial?_slot (name := Str.ofString "__getitem__") ht.typeIs PyProof.Rows.slot_tuple_getitem
    (wpAny_call_entry PyProof.Rows.slot_tuple_getitem ht.typeIs entry_tuple_getitem ?_ (args_tuple_getitem _ _)))
  show wpAny _ _ (Builtin.Tuple.tupleItemsOf (.ref t) >>= _) _ _ s
  refine wpAny_bind (tupleItemsOf_ ht ?_)
  refine wpAny_bind (wpAny_typeOf hTs ?_)
  rw [if_pos (by decide)]
  refine wpAny_bind (applied_rev hs pl pu ps ?_)
  have hno : ¬ ((((items.size : Int) - 1) == 0 && (-1 : Int) == 1 && items.size == items.size) = true) := by simp
  show wpAny _ _ (if ((((items.size : Int) - 1) == 0 && (-1 : Int) == 1 && items.size == items.size) = true) then _ else _) _ _ s
  rw [if_neg hno, pick_rev]
  first
    | exact wpAny_bind (m := Builtin.Tuple.tupleExact _) (wpAny_newObj_type (wpAny_pure ⟨_, rfl, wpAny_pure h⟩) hfit)
    | exact wpAny_bind (m := Builtin.Tuple.tupleExact _) (wpAny_newObj_type (wpAny_bind (wpAny_pure (wpAny_pure ⟨_, rfl, wpAny_pure h⟩))) hfit)
    | exact wpAny_bind (wpAny_bind (m := Builtin.Tuple.tupleExact _) (wpAny_newObj_type (wpAny_pure (wpAny_pure ⟨_, rfl, wpAny_pure h⟩)) hfit))
    | exact wpAny_bind (wpAny_bind (m := Builtin.Tuple.tupleExact _) (wpAny_newObj_type (wpAny_pure ⟨_, rfl, wpAny_pure h⟩) hfit))
end
section
variable {X : Cx} {W : WX} {e : Expr} {me : EM} {k : Nat} {p1 p2 p3 pos : Pos}
def tRevT (K : PySem.W.Frag) (te : TE) : TE := fun σ H Q => te σ H fun x H1 => ∃ a xs, x = .ref a ∧ SqT K H1 a xs ∧ ∀ p, H1 p = none → Q (.ref p) (upd H1 p (.tup xs.reverse))
theorem pe_revT {te : TE} (he : PE X e te) : PE X (.Subscript e (.Slice none none (some (.UnaryOp .USub (.Constant (.int 1) k p1) p2)) p3) pos) (tRevT X.K te) := by
  refine ⟨fun pins s σ H Q I h => Subscript_ (thn (he.run pins s σ H _ I h) fun v s1 ⟨x, H1, I1, r1, a, xs, ex, hx, q⟩ => ?_)⟩
  subst ex
  cases r1
  have step : L2.PO X (some (.UnaryOp .USub (.Constant (.int 1) k p1) p2)) (tPart (tUn (rU fun i => .int (-i)) (tC (.int 1)))) := po_some (pe_un un_neg pe_int)
  refine wpAny_Slice (thn (po_none.run pins s1 σ H1 (fun o H2 => o = none ∧ H2 = H1) I1 ⟨rfl, rfl⟩) fun vl s2 ⟨l, H2, I2, pl, el, e2⟩ => ?_)
  subst el e2
  refine thn (po_none.run pins s2 σ H2 (fun o H3 => o = none ∧ H3 = H2) I2 ⟨rfl, rfl⟩) fun vu s3 ⟨u, H3, I3, pu, eu, e3⟩ => ?_
  subst eu e3
  refine thn (step.run pins s3 σ H3 (fun o H4 => o = some (-1) ∧ H4 = H3) I3 ⟨1, rfl, -1, rfl, rfl, rfl⟩) fun vs s4 ⟨o, H4, I4, ps, eo, e4⟩ => ?_
  subst eo e4
  have I5 : Inv X pins σ H4 { s4 with heap := s4.heap.push { cls := .type "slice", data := .fields #[vl, vu, vs] } } := I4.kept (t' := s4.toks) fun b ob q => Heap.get?_push_of_some _ q
  obtain ⟨its, r, ht, hz⟩ := I5.tuple hx
  have hlen := r.length
  show wpAny (model X.prog X.w) X.A (subscriptTail e (.Slice none none (some (.UnaryOp .USub (.Constant (.int 1) k p1) p2)) p3) (.ref a) (.ref s4.heap.objs.size)) (EP X pins σ Q) X.xe { s4 with heap := s4.heap.push { cls := .type "slice", data := .fields #[vl, vu, vs] } }
  refine tail_any (ops := [.ref a, .ref s4.heap.objs.size]) ht.typeIs (PyProof.Rows.slot_tuple_getitem.lookup) ?_ (by with_unfolding_all rfl)
  refine getItem_rev ht (Heap.IsSliceOf.new _ vl vu vs) pl pu ps ?_ (by rw [List.size_toArray]; omega)
  refine ⟨.ref _, _, I5.laid (t' := s4.toks) (o := .tup xs.reverse) (fun b ob q => Heap.get?_push_of_some _ q) (Nat.le_refl _) ?_, rfl, q _ (I5.hok.fresh (Nat.le_refl _))⟩
  exact ⟨by rw [List.length_reverse]; exact hz, _, r.reverse, ⟨_, Heap.get?_push_size _ rfl, rfl, _, rfl⟩⟩
def mRevT (a : EM) : EM := fun ρ h => (a ρ h).bind fun p h1 => match asT p with
  | some xs => .ok (.tup xs.reverse) h1
  | none => .bad
def mRevL (b : Bool) (a : EM) : EM := fun ρ h => (a ρ h).bind fun p h1 => match asL h1 p with
  | some xs => .ok (newL b xs.reverse h1).1 (newL b xs.reverse h1).2
  | none => .bad
theorem me_revT (he : PE X e (tmE (gr X) W me)) : PE X (.Subscript e (.Slice none none (some (.UnaryOp .USub (.Constant (.int 1) k p1) p2)) p3) pos) (tmE (gr X) W (mRevT me)) :=
  PE_imp (pe_revT he) fun σ H Q ⟨ρ, h, Φ, r, rs, q⟩ => ⟨ρ, h, Φ, r, rs, okO.bind q fun p h1 Φ1 H1 x e1 r1 rp q1 => by
    split at q1
    · rename_i xs ex
      obtain ⟨a, vs, h1, h2, h3⟩ := asT_ok rp ex
      refine ⟨a, vs, h1, h2, fun n hn => ?_⟩
      obtain ⟨e', r', q'⟩ := newT_ok r1 h3.reverse hn
      exact q1 Φ1 _ _ e' r' q'
    · exact q1.elim⟩
theorem me_revL (b : Bool) (he : PE X e (tmE (gr X) W me)) : PE X (.Subscript e (.Slice none none (some (.UnaryOp .USub (.Constant (.int 1) k p1) p2)) p3) pos) (tmE (gr X) W (mRevL b me)) :=
  PE_imp (pe_revL he) fun σ H Q ⟨ρ, h, Φ, r, rs, q⟩ => ⟨ρ, h, Φ, r, rs, okO.bind q fun p h1 Φ1 H1 x e1 r1 rp q1 => by
    split at q1
    · rename_i xs ex
      obtain ⟨a, vs, h1, h2, h3⟩ := asL_ok r1 rp ex
      refine ⟨a, vs, h1, h2, fun n hn => ?_⟩
      obtain ⟨Φ', e', r', q'⟩ := newL_ok (b := b) r1 h3.reverse hn
      exact q1 Φ' _ _ e' r' q'
    · exact q1.elim⟩
end

/-! ### a, b = a list -/
def mUnl (ts : List Tg) (e : EM) : SM := fun ρ h => (e ρ h).st ρ fun p h1 => match asL h1 p with
  | some ps => match asgs ts ps ρ with
    | some ρ1 => .nx ρ1 h1
    | none => .bad
  | none => .bad
section
variable {X : Cx} {W : WX} {e : Expr} {me : EM} {pos tpos : Pos} {es : List Expr} {k : Nat} {ts : List Tg} {t : TGs}
theorem ms_unl (hc : X.calm = true) (he : PE X e (tmE (gr X) W me)) (hg : PGs X es t) (eg : t = gTgs X.K ts := by rfl) (hn : (assignEach es X.env).length = ts.length := by rfl) (hst : (assignEach es X.env).findIdx? (·.1) = none := by rfl)
    (hs : swapsWithSole [.Tuple es k tpos] e pos.line X.env = pure false := by rfl) (hw : swappedStores [.Tuple es k tpos] e X.env = pure none := by rfl)
    (h1 : (assignEach [.Tuple es k tpos] X.env).map (·.2) = [assign (.Tuple es k tpos) X.env] := by rfl) : PS X (.Assign [.Tuple es k tpos] e pos) (tsm (gr X) W (mUnl ts me)) := by
  subst eg
  refine PS_imp (ps_asg he (pg_unl hc hg hn hst) hs hw h1) fun D σ H ⟨ρ, h, Φ, r, rs, q⟩ => ⟨ρ, h, Φ, r, rs, okS.st rs q fun p h1 Φ1 H1 x e1 r1 rp q1 => ?_⟩
  split at q1
  · rename_i ps ep
    obtain ⟨a, vs, rfl, h2, h3⟩ := asL_ok r1 rp ep
    split at q1
    · rename_i ρ1 e2
      exact ⟨a, vs, rfl, h2, by rw [← h3.length]; exact asgs_len e2, asgs_ok (G := gr X) e2 h3 (rs.ext e1) fun σ' rs' _ => q1 Φ1 H1 σ' .refl r1 rs'⟩
    · exact q1.elim
  · exact q1.elim
end
end Ev
set_option maxHeartbeats 2000000
/-! Ev9: several except clauses, each with `as`; the caught error's field; isinstance of it. -/
namespace Ev
open PySem PySem.Spec PyProof.Rows L2
abbrev Cl := Addr → Value → Option Addr → TS
/-- behind the suite the clause's name is gone -/
abbrev gone (D : Ends) (i : Nat) : Ends := { nx := fun τ J => D.nx (τ.set i none) J, rt := D.rt, bk := fun τ J => D.bk (τ.set i none) J, ct := fun τ J => D.ct (τ.set i none) J }
abbrev goneO (D : Ends) : Option Nat → Ends
  | some i => gone D i
  | none => D
abbrev setO (σ : Sl) (v : V) : Option Nat → Sl
  | some i => σ.set i (some v)
  | none => σ
/-- what the clauses wish, one after the other -/
def wAll (K : PySem.W.Frag) (Wo : WX) (D : Ends) : List (Value × Option Nat × Cl) → WX
  | [] => Wo
  | z :: r => fun cls d σ H => ∃ b, PySem.W.exmOne K cls z.1 = some b ∧ (b = true → ∀ a, H a = none → z.2.2 a cls d (goneO D z.2.1) (setO σ (.ref a) z.2.1) H) ∧ (b = false → wAll K Wo D r cls d σ H)
inductive Clauses (X : Cx) : List ExceptHandler → List (Value × Option Nat × Cl) → Prop
  | nil : Clauses X [] []
  | cons {x n : Str} {c : Value} {i : Nat} {ts : Cl} {st : Stmt} {sts : List Stmt} {np hp : Pos} {hds : List ExceptHandler} {l : List (Value × Option Nat × Cl)} (hc : Names X x c) (hi : X.N[i]? = some n) (hk : X.env.kindOf n = some .local)
      (hsu : ∀ (a : Addr) (oe : Obj) (cls : Value) (d : Option Addr) (pn : List (Addr × Obj)), Zc cls d oe → (∃ vs, oe.data = .fields vs) → PSs (X.suite a ((a, oe) :: pn)) (st :: sts) (ts a cls d)) (r : Clauses X hds l) :
      Clauses X (.ExceptHandler (some (.Name x np)) (some n) (st :: sts) hp :: hds) ((c, some i, ts) :: l)
  | bare {x : Str} {c : Value} {ts : Cl} {st : Stmt} {sts : List Stmt} {np hp : Pos} {hds : List ExceptHandler} {l : List (Value × Option Nat × Cl)} (hc : Names X x c)
      (hsu : ∀ (a : Addr) (oe : Obj) (cls : Value) (d : Option Addr) (pn : List (Addr × Obj)), Zc cls d oe → (∃ vs, oe.data = .fields vs) → PSs (X.suite a ((a, oe) :: pn)) (st :: sts) (ts a cls d)) (r : Clauses X hds l) :
      Clauses X (.ExceptHandler (some (.Name x np)) none (st :: sts) hp :: hds) ((c, none, ts) :: l)
section
variable {X : Cx} {body : List Stmt} {h0 : ExceptHandler} {hds : List ExceptHandler} {l : List (Value × Option Nat × Cl)} {pos : Pos} {tb : WX → TS} {Wo : WX}
theorem ps_try_all (st : X.stack = X.env :: X.outer) (fr : X.env.frame = some X.env.locals) (nd : X.N.Nodup) (tk : Takes X Wo)
    (hb : ∀ (W : WX) (pn : List (Addr × Obj)) (xe : Value → Shared → Prop), Takes (X.tr pn xe) W → PassesOwn (model X.prog X.w) X.A X.env xe → PSs (X.tr pn xe) body (tb W))
    (hh : Clauses X (h0 :: hds) l) : PS X (.Try body (h0 :: hds) [] [] pos) (fun D σ H => tb (wAll X.K Wo D l) D σ H) := by
  refine ⟨fun pins s σ H D I go => wpAny_Try_except ?_⟩
  have ok := I.ok
  have afr : X.A.frames = some (X.env :: X.outer) := ok.frames.trans (congrArg some st)
  refine wpAny_mono ((hb (wAll X.K Wo D l) (X.pn ++ pins) (fun e s1 => wpAny (model X.prog X.w) X.A (noteFrame e X.env) (fun _ s2 => wpAny (model X.prog X.w) X.A (setFlight e none) (fun _ s3 => wpAny (model X.prog X.w) X.A (handleBy e X.env (h0 :: hds)) (SP X pins D) X.xe s3) X.xe s2) X.xe s1)
    (fun u t xx => ?_) PassesOwn.looking).run [] s σ H D (I.toTry _) go) (fun f t hsp => ?_) (fun e t he => he)
  · obtain ⟨a, B, sI, pins', σ1, H1, cls, d, rfl, J0, nb, up, sky, na, os, ag, w⟩ := xx
    have J : Inv X pins σ1 H1 sI := J0.ofTry ok
    have sk : Sky B (X.env :: X.outer) a (Zc cls d) X.env.locals t.heap := st ▸ sky
    show wpAny _ X.A (noteFrame (.ref a) X.env) _ _ t
    refine Sky.land Zc.steady afr fr sk fun h3 fl up3 => ?_
    have J3 : Inv X pins σ1 H1 { t with heap := h3 } := J.landed nb fl.1 (up.trans up3) os ag
    obtain ⟨oe, vs, he, hz, hd⟩ := fl.there
    have nfr : a ∉ frs (X.env :: X.outer) := fun m => by
      obtain ⟨_, o1, q1, q2⟩ := fl.2.2.1.mem m
      rw [he] at q1
      exact q2 vs (by cases q1; exact hd)
    have nL : a ≠ X.env.locals := fun z => nfr (List.mem_filterMap.mpr ⟨X.env, List.mem_cons_self, by rw [fr, z]⟩)
    have nF : a ∉ X.fs := fun m => let ⟨e, q1, q2⟩ := List.mem_filterMap.mp m; nfr (List.mem_filterMap.mpr ⟨e, List.mem_cons_of_mem _ q1, q2⟩)
    have S3 := J3.suite he hd na nL nF
    have walk : ∀ {hs2 : List ExceptHandler} {l2 : List (Value × Option Nat × Cl)}, Clauses X hs2 l2 → wAll X.K Wo D l2 cls d σ1 H1 → wpAny (model X.prog X.w) X.A (handleBy (.ref a) X.env hs2) (SP X pins D) X.xe { t with heap := h3 } := by
      intro hs2 l2 hk
      induction hk with
      | nil =>
        refine fun w => wpAny_handleBy_nil ?_
        obtain ⟨k1, k2, k3, o2, v2, T, oT, t2, q1, q2, q3, q4, q5⟩ := id fl
        unfold PySem.passOn
        refine wpAny_bind (wpAny_field q1 q3 q4 ?_)
        rw [if_neg (show ¬ ((Value.ref T == Value.none) = true) from by simp)]
        have fin : wpAny (model X.prog X.w) X.A (setFlight (.ref a) X.env.frame) (fun _ s4 => wpAny (model X.prog X.w) X.A (throw (.ref a) : Sem Flow) (SP X pins D) X.xe s4) X.xe { t with heap := h3 } := by
          rw [fr]
          exact HandSPX.setFlight_upZ fl fun h4 k4 up4 => wpAny_throw (tk _ _ ⟨a, B, sI, pins, σ1, H1, cls, d, rfl, J, nb, (up.trans up3).trans up4, .inr (.inr (by rw [st]; exact k4)), na, os, ag, w⟩)
        first
          | exact wpAny_bind (wpAny_pure (wpAny_bind fin))
          | exact wpAny_bind fin
      | @cons x n c i ts s0 sts np hp hd2 l3 hc hi hkd hsu r ih =>
        rintro ⟨b, hb1, yes, no⟩
        refine wpAny_handleBy_cons (codeAny_handlers_test ?_) (by intro q; cases q)
        have LT : PySem.W.Looks (model X.prog X.w) h3 (typeOf (.ref a)) cls := fun A Q E s k q => wpAny_typeOf_ref (k _ _ he) (by rw [hz.1]; exact q)
        have LM := PySem.W.exm_one (M := model X.prog X.w) J3.kIn LT hb1
        have test : ∀ {Q : Value → Shared → Prop} {E : Value → Shared → Prop}, Q c { t with heap := h3 } → wpAny (model X.prog X.w) (X.A.mark (some (.ref a))) (eval (.Name x np) X.env) Q E { t with heap := h3 } := fun {Q E} q => by
          rcases hc with ⟨hg, hdb, hm | ⟨hm, hv, hn⟩⟩
          · exact ld_glob (X := X.suite a ((a, oe) :: (X.pn ++ pins))) S3 hg hm q hdb
          · exact ld_blt (X := X.suite a ((a, oe) :: (X.pn ++ pins))) S3 hg hm hv q hn hdb
        refine test (LM.here ?_)
        cases b with
        | false => exact ih (no rfl)
        | true =>
          refine codeAny_handlers_suite_as (HandSPX.lands_againZ fl fun h4 fl4 up4 => ?_)
          have J4 : Inv X pins σ1 H1 { t with heap := h4 } := J.landed nb fl4.1 ((up.trans up3).trans up4) os ag
          obtain ⟨o4, v4, he4, hz4, hd4⟩ := fl4.there
          refine store_ok (X := X.suite a ((a, o4) :: (X.pn ++ pins))) (v := .ref a) (J4.suite he4 hd4 na nL nF) nd hi (.inl hkd) rfl (fun s5 S5 => ?_) (.inr hkd)
          refine wpAny_mono ((hsu a o4 cls d (X.pn ++ pins) hz4 ⟨_, hd4⟩).run [] s5 _ H1 _ S5 (yes rfl a na)) (fun f s6 hsp => ?_) (fun _ _ z => False.elim z)
          have fin : ∀ {σ6 : Sl} {H6 : Hp} {Q : Shared → Prop}, Inv (X.suite a ((a, o4) :: (X.pn ++ pins))) [] σ6 H6 s6 → (∀ s7, Inv X pins (σ6.set i none) H6 s7 → Q s7) →
              wpAny (model X.prog X.w) X.A (do bindName X.env n .none; unbindBehindTheSuite X.env n hp) (fun _ s7 => Q s7) X.xe s6 := fun S6 hq => gone_ok (S6.unsuite ok) nd hi hkd hq
          cases f with
          | ret u =>
            obtain ⟨v6, σ6, H6, S6, r6, q6⟩ := hsp
            exact fin S6 fun s7 J7 => ⟨_, _, _, J7, r6, q6⟩
          | next => obtain ⟨σ6, H6, S6, q6⟩ := hsp; exact fin S6 fun s7 J7 => ⟨_, _, J7, q6⟩
          | brk => obtain ⟨σ6, H6, S6, q6⟩ := hsp; exact fin S6 fun s7 J7 => ⟨_, _, J7, q6⟩
          | cont => obtain ⟨σ6, H6, S6, q6⟩ := hsp; exact fin S6 fun s7 J7 => ⟨_, _, J7, q6⟩
      | @bare x c ts s0 sts np hp hd2 l3 hc hsu r ih =>
        rintro ⟨b, hb1, yes, no⟩
        refine wpAny_handleBy_cons (codeAny_handlers_test ?_) (by intro q; cases q)
        have LT : PySem.W.Looks (model X.prog X.w) h3 (typeOf (.ref a)) cls := fun A Q E s k q => wpAny_typeOf_ref (k _ _ he) (by rw [hz.1]; exact q)
        have LM := PySem.W.exm_one (M := model X.prog X.w) J3.kIn LT hb1
        have test : ∀ {Q : Value → Shared → Prop} {E : Value → Shared → Prop}, Q c { t with heap := h3 } → wpAny (model X.prog X.w) (X.A.mark (some (.ref a))) (eval (.Name x np) X.env) Q E { t with heap := h3 } := fun {Q E} q => by
          rcases hc with ⟨hg, hdb, hm | ⟨hm, hv, hn⟩⟩
          · exact ld_glob (X := X.suite a ((a, oe) :: (X.pn ++ pins))) S3 hg hm q hdb
          · exact ld_blt (X := X.suite a ((a, oe) :: (X.pn ++ pins))) S3 hg hm hv q hn hdb
        refine test (LM.here ?_)
        cases b with
        | false => exact ih (no rfl)
        | true =>
          refine codeAny_handlers_suite (HandSPX.lands_againZ fl fun h4 fl4 up4 => ?_)
          have J4 : Inv X pins σ1 H1 { t with heap := h4 } := J.landed nb fl4.1 ((up.trans up3).trans up4) os ag
          obtain ⟨o4, v4, he4, hz4, hd4⟩ := fl4.there
          refine wpAny_mono ((hsu a o4 cls d (X.pn ++ pins) hz4 ⟨_, hd4⟩).run [] _ _ H1 _ (J4.suite he4 hd4 na nL nF) (yes rfl a na)) (fun f s6 hsp => ?_) (fun _ _ z => False.elim z)
          cases f with
          | ret u => obtain ⟨v6, σ6, H6, S6, r6, q6⟩ := hsp; exact ⟨_, _, _, S6.unsuite ok, r6, q6⟩
          | next => obtain ⟨σ6, H6, S6, q6⟩ := hsp; exact ⟨_, _, S6.unsuite ok, q6⟩
          | brk => obtain ⟨σ6, H6, S6, q6⟩ := hsp; exact ⟨_, _, S6.unsuite ok, q6⟩
          | cont => obtain ⟨σ6, H6, S6, q6⟩ := hsp; exact ⟨_, _, S6.unsuite ok, q6⟩
    exact walk hh w
  · cases f with
    | ret u => obtain ⟨v, σ1, H1, J1, r, q⟩ := hsp; exact ⟨v, σ1, H1, J1.ofTry ok, r, q⟩
    | next => obtain ⟨σ1, H1, J1, q⟩ := hsp; exact wpAny_execs_nil ⟨σ1, H1, J1.ofTry ok, q⟩
    | brk => obtain ⟨σ1, H1, J1, q⟩ := hsp; exact ⟨σ1, H1, J1.ofTry ok, q⟩
    | cont => obtain ⟨σ1, H1, J1, q⟩ := hsp; exact ⟨σ1, H1, J1.ofTry ok, q⟩
end

/-! ### isinstance(e, C) of the caught error, with or without an own dict -/
section
open PySem.W PySem.Calls
variable {prog : Program} {w : World} {A : Around} {E : Value → Shared → Prop} {s : Shared} {K : Frag} {x D : Addr} {ox : Obj} {od : Option Obj}
/-- a class's data descriptor comes first, whatever the own dict holds -/
theorem obj_desc {C : Addr} {name : Str} {a g : Value} (hc : (clsIn K C).isSome = true) (ha : findIn K (.ref C) name = some (some a)) (hg : specialIn K a "__get__" = some (some g)) (ht : takesIn K a = some true) : findObj K C od name = some (.bind g a) := by
  obtain ⟨cd, e⟩ := Option.isSome_iff_exists.mp hc
  simp [findObj, e, ha, hg, ht]
/-- what an own error class must say, so that isinstance asks its errors rightly: see L2.ExcC -/
theorem cls_of_err {Q : Option Value → Shared → Prop} (C : L2.ExcC K D) (X : K.In s.heap) (I : InstAt s.heap x ox D od) (h : Q (some (.ref D)) { s with toks := s.toks + 1 }) : wpAny (model prog w) A (getAttr? (.ref x) "__class__") Q E s := by
  have hf : findObj K D od "__class__" = some (.bind (.builtin "getset_descriptor.__get__") (.builtin "object.__class__")) := obj_desc (by obtain ⟨cd, hc, _⟩ := any_some C.hd; rw [hc]; rfl) C.ha C.hn C.ht
  obtain ⟨hp, g, d, t, os⟩ := s
  have l0 := I.type (M := model prog w)
  have l1 := looks_findIn (M := model prog w) X C.hg
  have l2 := looks_findIn (M := model prog w) X C.hk
  have l3 := looks_find (M := model prog w) X I hf
  have ls : Looks (model prog w) hp (isInstance (.ref x) (.type "BaseException")) true := l0.andThen (looks_subIn X C.hs)
  have hx2 : (Value.builtin "BaseException.__getattribute__" == Value.builtin "object.__getattribute__") = false := by decide +kernel
  have hx1 : (onTheHeap (Value.ref D) && Value.builtin "BaseException.__getattribute__" == Value.builtin "object.__getattribute__") = false := by rw [hx2]; rfl
  unfold getAttr? getAttrBy? getAttrBy
  refine wpAny_bind (wpAny_mkText (wpAny_bind (wpAny_attempt (wpAny_holding (wpAny_bind (l0.at (wpAny_bind (l1.at ?_))))))))
  show wpAny _ _ (if (onTheHeap (Value.ref D) && Value.builtin "BaseException.__getattribute__" == Value.builtin "object.__getattribute__") = true then _ else _) _ _ _
  rw [hx1, if_neg Bool.false_ne_true]
  unfold getAttrByItsOwn hookBefore
  refine wpAny_bind ?_
  rw [if_pos (show onTheHeap (Value.ref D) = true from rfl)]
  refine l2.at (wpAny_bind (wpAny_attempt (wpAny_holding ?_)))
  unfold callGetattribute
  rw [show (false && onTheHeap (Value.builtin "BaseException.__getattribute__")) = false from rfl, if_neg Bool.false_ne_true]
  unfold boundAndCalled
  rw [PySem.F.excAttr_ValueError.ga.bind (.ref x)]
  refine wpAny_bind (wpAny_pure ?_)
  show wpAny _ _ (call (.builtin "BaseException.__getattribute__") [.ref x, .str "__class__" t]) _ _ _
  refine wpAny_call (codeAny_call_builtin PySem.F.excAttr_ValueError.ga.plain PySem.F.entry_bexc_ga ?_)
  refine @check_slot (model prog w) _ _ ⟨hp, g, d, t + 1, os⟩ "BaseException.__getattribute__" "BaseException" "__getattribute__" (.ref x) [.str "__class__" t] [] _ (by decide +kernel) (by decide +kernel) ls (PySem.F.args_bexc_ga (.ref x) (.str "__class__" t)) ?_
  unfold Builtin.«object.__getattribute__»
  refine wpAny_bind (wpAny_of_eq (a := ((Value.ref x : Value), [Value.str "__class__" t])) (by first | rfl | (simp only [slotArgs]; rfl)) ?_)
  refine wpAny_bind (wpAny_pure (wpAny_bind (l0.at (wpAny_bind (l3.at ?_)))))
  show wpAny _ _ (holding [Value.builtin "object.__class__"] (call (.builtin "getset_descriptor.__get__") [.builtin "object.__class__", .ref x, .ref D]) >>= ret) _ _ _
  refine wpAny_bind (wpAny_holding (wpAny_call (class_get (s := ⟨hp, g, d, t + 1, os⟩) (ox := ox) (od := od) X I C.hm (wpAny_pure ?_))))
  show wpAny _ _ (handedOut (.ref D)) _ _ _
  rw [handedOut_of (v := .ref D) rfl]
  first
    | exact wpAny_pure (wpAny_pure h)
    | exact wpAny_pure h
    | exact wpAny_pure (wpAny_bind (wpAny_pure (wpAny_pure h)))
theorem kit_err (C : L2.ExcC K D) : KitX K (.ref x) (.ref D) (fun h => ∃ ox od, InstAt h x ox D od) := by
  have at_ : ∃ o, K.lookup D = some o ∧ ∃ c, o.data = .cls c := by
    obtain ⟨cd, hc, _⟩ := any_some C.hd
    unfold clsIn at hc
    split at hc
    · rename_i ho
      exact ⟨_, ho, _, rfl⟩
    · cases hc
  obtain ⟨o, ho, cc, hcc⟩ := at_
  refine ⟨fun M h X ⟨_, _, I⟩ => I.type, fun M h X _ A Q E s k q => ?_, fun h tp dd its n sl X htp => ?_, fun X ⟨_, _, I⟩ k => cls_of_err C X I k⟩
  · unfold isType loadHead
    refine wpAny_bind (wpAny_loadPart (k _ _ (X _ _ ho)) (wpAny_pure ?_))
    obtain ⟨oc, odd, oda, osl⟩ := o
    cases hcc
    exact q
  · refine Bool.eq_false_iff.mpr fun q => ?_
    cases Value.ref.inj (beq_iff_eq.mp q)
    have z := (X _ _ ho).symm.trans htp
    cases z
    cases hcc
end
/-- isinstance(e, c), e the error that the suite holds -/
def rErr (K : PySem.W.Frag) (D a : Addr) (d : Option Addr) : List V → Hp → VK → Prop := fun xs H Q => ∃ (c : V) (cv : Value) (b : Bool), xs = [.ref a, c] ∧ (∀ u, RelV c u → u = cv) ∧ (d = none ∨ ∃ dd kvs, d = some dd ∧ H dd = some (.xd kvs)) ∧ PySem.W.kitOne K (.ref D) cv = some b ∧ Q (.bl b) H
theorem call_err {X : Cx} {a D : Addr} {oe : Obj} {d : Option Addr} {pn : List (Addr × Obj)} (C : ExcC X.K D) (hz : Zc (.ref D) d oe) (hf : ∃ vs, oe.data = .fields vs) : CallR (X.suite a ((a, oe) :: pn)) (.builtin "isinstance") (rErr X.K D a d) := by
  intro pins s σ H xs us Q I r ⟨c, cv, b, hxs, hcv, hdd, e, q⟩
  subst hxs
  cases r with
  | cons rx rr =>
    cases rr with
    | cons rt rr =>
      cases rr
      cases rx
      cases hcv _ rt
      obtain ⟨hget, _⟩ := I.pin (a, oe) (List.mem_append_left _ List.mem_cons_self)
      obtain ⟨vs, hv⟩ := hf
      have nc : PySem.W.notCls oe = true := by unfold PySem.W.notCls; rw [hv]
      have J : ∃ ox od, PySem.W.InstAt s.heap a ox D od := by
        rcases hdd with e0 | ⟨dd, kvs, e1, e2⟩
        · exact ⟨oe, none, hget, hz.1, nc, by rw [hz.2, e0]; trivial⟩
        · have hx : ObjOk X.prog X.w H s.heap dd (.xd kvs) := I.hok dd _ e2
          obtain ⟨mA, hns, _⟩ := hx
          obtain ⟨od, ho, _⟩ := lookIn_ns hns
          exact ⟨oe, some od, hget, hz.1, nc, by rw [hz.2, e1]; exact ho⟩
      exact PySem.W.kia_one (kit_err C) I.kIn J e (fun z => nomatch z) fun tk => ⟨.bl b, H, I.kept (t' := tk) fun _ _ z => z, rfl, q⟩
end Ev
/-! Ev10: try by what it means. -/
namespace Ev
open PySem PySem.Spec PyProof.Rows L2
theorem Ros.unset {G : Gr} {Φ : Fo} {H : Hp} {ρ : Ro} {σ : Sl} (r : Ros G Φ H ρ σ) (i : Nat) : Ros G Φ H (ρ.set i none) (σ.set i none) := r.wipe [i]
def SO.gone (i : Option Nat) : SO → SO
  | .nx ρ h => .nx (i.elim ρ fun i => ρ.set i none) h
  | .bk ρ h => .bk (i.elim ρ fun i => ρ.set i none) h
  | .ct ρ h => .ct (i.elim ρ fun i => ρ.set i none) h
  | .rt v h => .rt v h
  | .ex _ _ _ _ _ => .bad
  | .bad => .bad
theorem okS.gone {G : Gr} {W : WX} {D : Ends} {Φ : Fo} {H : Hp} {o : SO} {i : Option Nat} (q : okS G W D Φ H (o.gone i)) : okS G W0 (goneO D i) Φ H o := by
  cases i with
  | none =>
    cases o with
    | nx ρ h => exact q
    | bk ρ h => exact q
    | ct ρ h => exact q
    | rt v h => exact q
    | ex c fs xs ρ h => exact q.elim
    | bad => exact q
  | some i =>
    cases o with
    | nx ρ h => exact fun Φ' H' σ' e r s => q Φ' H' _ e r (s.unset i)
    | bk ρ h => exact fun Φ' H' σ' e r s => q Φ' H' _ e r (s.unset i)
    | ct ρ h => exact fun Φ' H' σ' e r s => q Φ' H' _ e r (s.unset i)
    | rt v h => exact q
    | ex c fs xs ρ h => exact q.elim
    | bad => exact q
/-- the same, wherever the error lies -/
noncomputable def unif (f : Addr → Addr → SO) : SO := open Classical in if ∀ a d, f a d = f 0 0 then f 0 0 else .bad
theorem unif_eq {f : Addr → Addr → SO} {o : SO} (h : ∀ a d, f a d = o) : unif f = o := by
  unfold unif
  rw [if_pos fun a d => (h a d).trans (h 0 0).symm, h]
theorem unif_at {f : Addr → Addr → SO} {G : Gr} {W : WX} {D : Ends} {Φ : Fo} {H : Hp} (q : okS G W D Φ H (unif f)) (a d : Addr) : okS G W D Φ H (f a d) := by
  unfold unif at q
  split at q
  · rename_i h; rw [h a d]; exact q
  · exact q.elim
/-- a clause: which classes it takes, its name's slot, its suite by class and place of the error -/
structure CM where
  tb : List (Str × Bool)
  nm : Option Nat
  su : Str → List Str → Addr → Addr → SM
def setRo (ρ : Ro) (p : PV) : Option Nat → Ro
  | some i => ρ.set i (some p)
  | none => ρ
noncomputable def hand (c : Str) (fs : List Str) (xs : List PV) (ρ : Ro) (h : PH) : List CM → SO
  | [] => .ex c fs xs ρ h
  | z :: r => match z.tb.lookup c with
    | some true => unif fun a d => (z.su c fs a d (setRo ρ (.err a c d fs xs) z.nm) h).gone z.nm
    | some false => hand c fs xs ρ h r
    | none => .bad
noncomputable def mTry (body : SM) (cs : List CM) : SM := fun ρ h => match body ρ h with
  | .ex c fs xs ρ1 h1 => hand c fs xs ρ1 h1 cs
  | r => r
/-- the error's own dict is at dd, if it has one -/
def Dk (fs : List Str) (d : Option Addr) (dd : Addr) : Prop := (fs = [] ∧ d = none) ∨ (fs ≠ [] ∧ d = some dd)
def tsOf (X : Cx) (z : CM) : Cl := fun a cls d D σ H => ∃ c C dd fs, cls = .ref C ∧ z.tb.lookup c = some true ∧ X.mg c = some (.ref C) ∧ Dk fs d dd ∧ tsm (gr X) W0 (z.su c fs a dd) D σ H
/-- what is asked of a clause's suite -/
def SuOk (X : Cx) (z : CM) (sts : List Stmt) : Prop := ∀ (c : Str) (a : Addr) (oe : Obj) (C : Addr) (d : Option Addr) (dd : Addr) (fs : List Str) (pn : List (Addr × Obj)), z.tb.lookup c = some true → X.mg c = some (.ref C) → Zc (.ref C) d oe → (∃ vs, oe.data = .fields vs) → Dk fs d dd →
  PSs (X.suite a ((a, oe) :: pn)) sts (tsm (gr X) W0 (z.su c fs a dd))
inductive CLs (X : Cx) : List ExceptHandler → List CM → List (Value × Option Nat × Cl) → Prop
  | nil : CLs X [] [] []
  | cons {x n : Str} {cv : Value} {i : Nat} {z : CM} {st : Stmt} {sts : List Stmt} {np hp : Pos} {hds : List ExceptHandler} {zs : List CM} {l : List (Value × Option Nat × Cl)} (hc : Names X x cv) (hi : X.N[i]? = some n) (hk : X.env.kindOf n = some .local) (hz : z.nm = some i)
      (hm : ∀ (c : Str) (C : Addr) (b : Bool), z.tb.lookup c = some b → X.mg c = some (.ref C) → PySem.W.exmOne X.K (.ref C) cv = some b) (hsu : SuOk X z (st :: sts)) (r : CLs X hds zs l) : CLs X (.ExceptHandler (some (.Name x np)) (some n) (st :: sts) hp :: hds) (z :: zs) ((cv, some i, tsOf X z) :: l)
  | bare {x : Str} {cv : Value} {z : CM} {st : Stmt} {sts : List Stmt} {np hp : Pos} {hds : List ExceptHandler} {zs : List CM} {l : List (Value × Option Nat × Cl)} (hc : Names X x cv) (hz : z.nm = none)
      (hm : ∀ (c : Str) (C : Addr) (b : Bool), z.tb.lookup c = some b → X.mg c = some (.ref C) → PySem.W.exmOne X.K (.ref C) cv = some b) (hsu : SuOk X z (st :: sts)) (r : CLs X hds zs l) : CLs X (.ExceptHandler (some (.Name x np)) none (st :: sts) hp :: hds) (z :: zs) ((cv, none, tsOf X z) :: l)
theorem SuOk.run {X : Cx} {z : CM} {sts : List Stmt} (h : SuOk X z sts) (a : Addr) (oe : Obj) (cls : Value) (d : Option Addr) (pn : List (Addr × Obj)) (hz : Zc cls d oe) (hf : ∃ vs, oe.data = .fields vs) : PSs (X.suite a ((a, oe) :: pn)) sts (tsOf X z a cls d) := by
  refine ⟨fun pins s σ H D I q => ?_⟩
  obtain ⟨c, C, dd, fs, rfl, e1, e2, e3, q⟩ := q
  exact (h c a oe C d dd fs pn e1 e2 hz hf e3).run pins s σ H D I q
theorem CLs.clauses {X : Cx} : ∀ {hds : List ExceptHandler} {zs : List CM} {l : List (Value × Option Nat × Cl)}, CLs X hds zs l → Clauses X hds l := by
  intro hds zs l h
  induction h with
  | nil => exact .nil
  | cons hc hi hk hz hm hsu r ih => exact .cons hc hi hk (fun a oe cls d pn z f => hsu.run a oe cls d pn z f) ih
  | bare hc hz hm hsu r ih => exact .bare hc (fun a oe cls d pn z f => hsu.run a oe cls d pn z f) ih
theorem err_R {G : Gr} {Φ : Fo} {H : Hp} {d : Option Addr} {fs : List Str} {xs : List PV} {a : Addr} {c : Str} (x : XR G Φ H d fs xs) : ∃ dd, Dk fs d dd ∧ R G Φ H (.err a c dd fs xs) (.ref a) := by
  rcases x with ⟨h1, h2, h3⟩ | ⟨e, kvs, h1, h2, h3, h4, h5, h6⟩
  · exact ⟨0, .inl ⟨h2, h1⟩, rfl, .inl h2⟩
  · exact ⟨e, .inr ⟨h2, h1⟩, rfl, .inr ⟨kvs, h3, h4, h5, h6⟩⟩
theorem hand_ok {X : Cx} {W : WX} {D : Ends} {c : Str} {fs : List Str} {xs : List PV} {ρ : Ro} {h : PH} {Φ : Fo} {H : Hp} : ∀ {hds : List ExceptHandler} {zs : List CM} {l : List (Value × Option Nat × Cl)}, CLs X hds zs l → okS (gr X) W D Φ H (hand c fs xs ρ h zs) →
    ∀ Φ' H' C d σ', Ext Φ H Φ' H' → Hr (gr X) Φ' H' h → Ros (gr X) Φ' H' ρ σ' → X.mg c = some (.ref C) → XR (gr X) Φ' H' d fs xs → wAll X.K W D l (.ref C) d σ' H' := by
  intro hds zs l hk
  induction hk with
  | nil => exact fun q => q
  | @cons x n cv i z st sts np hp hds zs l hc hi hkd hz hm hsu r ih =>
    intro q Φ' H' C d σ' e rr rs m x
    unfold hand at q
    split at q
    · rename_i hl
      refine ⟨true, hm c C true hl m, fun _ a na => ?_, fun z => nomatch z⟩
      obtain ⟨dd, e1, re⟩ := err_R (a := a) (c := c) x
      have q1 := okS.start e (unif_at q a dd).gone
      rw [hz] at q1
      exact ⟨c, C, dd, fs, rfl, hl, m, e1, _, h, Φ', rr, rs.set i re, q1⟩
    · rename_i hl
      exact ⟨false, hm c C false hl m, (fun z => nomatch z), fun _ => ih q Φ' H' C d σ' e rr rs m x⟩
    · exact q.elim
  | @bare x cv z st sts np hp hds zs l hc hz hm hsu r ih =>
    intro q Φ' H' C d σ' e rr rs m x
    unfold hand at q
    split at q
    · rename_i hl
      refine ⟨true, hm c C true hl m, fun _ a na => ?_, fun z => nomatch z⟩
      obtain ⟨dd, e1, re⟩ := err_R (a := a) (c := c) x
      have q1 := okS.start e (unif_at q a dd).gone
      rw [hz] at q1
      exact ⟨c, C, dd, fs, rfl, hl, m, e1, _, h, Φ', rr, rs, q1⟩
    · rename_i hl
      exact ⟨false, hm c C false hl m, (fun z => nomatch z), fun _ => ih q Φ' H' C d σ' e rr rs m x⟩
    · exact q.elim
section
variable {X : Cx} {body : List Stmt} {h0 : ExceptHandler} {hds : List ExceptHandler} {l : List (Value × Option Nat × Cl)} {pos : Pos} {W : WX} {mb : SM} {zs : List CM}
theorem ms_try (st : X.stack = X.env :: X.outer) (fr : X.env.frame = some X.env.locals) (nd : X.N.Nodup) (tk : Takes X W)
    (hb : ∀ (W : WX) (pn : List (Addr × Obj)) (xe : Value → Shared → Prop), Takes (X.tr pn xe) W → PassesOwn (model X.prog X.w) X.A X.env xe → PSs (X.tr pn xe) body (tsm (gr X) W mb))
    (hh : CLs X (h0 :: hds) zs l) : PS X (.Try body (h0 :: hds) [] [] pos) (tsm (gr X) W (mTry mb zs)) := by
  refine PS_imp (ps_try_all (tb := fun W => tsm (gr X) W mb) st fr nd tk hb hh.clauses) fun D σ H ⟨ρ, h, Φ, r, rs, q⟩ => ⟨ρ, h, Φ, r, rs, ?_⟩
  unfold mTry at q
  cases z : mb ρ h with
  | ex c fs xs ρ1 h1 => rw [z] at q; exact hand_ok hh q
  | nx ρ1 h1 => rw [z] at q; exact q
  | bk ρ1 h1 => rw [z] at q; exact q
  | ct ρ1 h1 => rw [z] at q; exact q
  | rt v h1 => rw [z] at q; exact q
  | bad => rw [z] at q; exact q
end
/-! ### in a suite: the error's field, isinstance -/
section
variable {X : Cx} {W : WX} {a C : Addr} {oe : Obj} {d : Option Addr} {dd : Addr} {pn : List (Addr × Obj)} {e : Expr} {pos p : Pos} {me : EM} {c n : Str}
def look (fs : List Str) (xs : List PV) (n : Str) : Option PV := (fs.zip xs).lookup n
theorem look_ok {G : Gr} {Φ : Fo} {H : Hp} {n : Str} {x : PV} : ∀ {kvs : List (Str × V)} {fs : List Str} {xs : List PV}, kvs.map (·.1) = fs → Rs G Φ H xs (kvs.map (·.2)) → look fs xs n = some x → ∃ v, kvs.lookup n = some v ∧ R G Φ H x v
  | [], _, xs, e1, e2, e3 => by
    subst e1
    cases e3
  | (k, u) :: kvs, _, [], e1, e2, e3 => by
    cases e2
  | (k, u) :: kvs, _, y :: ys, e1, e2, e3 => by
    subst e1
    obtain ⟨v, r, h1, h2, h3⟩ := e2
    have h1' : u = v ∧ kvs.map (·.2) = r := by cases h1; exact ⟨rfl, rfl⟩
    obtain ⟨rfl, rfl⟩ := h1'
    have e3' : ((k, y) :: (kvs.map (·.1)).zip ys).lookup n = some x := e3
    rw [List.lookup_cons] at e3' ⊢
    cases hb : n == k with
    | true => rw [hb] at e3'; cases e3'; exact ⟨u, rfl, h2⟩
    | false => rw [hb] at e3'; exact look_ok rfl h3 e3'
/-- e.n, e the error that the suite holds -/
def mErrF (a dd : Addr) (fs : List Str) (n : Str) (me : EM) : EM := fun ρ h => (me ρ h).bind fun p h1 => match p with
  | .err a' _ d' fs' xs => if a' = a ∧ d' = dd ∧ fs' = fs ∧ fs ≠ [] then (match look fs xs n with
    | some v => .ok v h1
    | none => .bad) else .bad
  | _ => .bad
theorem me_errF {fs : List Str} (T : XfC X.K C) (hno : PySem.W.findIn X.K (.ref C) n = some none) (hz : Zc (.ref C) d oe) (hf : ∃ vs, oe.data = .fields vs) (hd : Dk fs d dd) (he : PE (X.suite a ((a, oe) :: pn)) e (tmE (gr X) W me)) (hb : attributeBase e n X.env (eval e X.env) = eval e X.env := by rfl) :
    PE (X.suite a ((a, oe) :: pn)) (.Attribute e n pos) (tmE (gr X) W (mErrF a dd fs n me)) := PE_imp (pe_xf T hno hz hf he hb) fun σ H Q ⟨ρ, h, Φ, r, rs, q⟩ =>
  ⟨ρ, h, Φ, r, rs, okO.bind q fun p h1 Φ1 H1 x e1 r1 rp q1 => by
    split at q1
    · rename_i a' c' d' fs' xs
      split at q1
      · rename_i hc
        obtain ⟨rfl, rfl, rfl, hn⟩ := hc
        have hd : d = some d' := hd.elim (fun z => absurd z.1 hn) fun z => z.2
        split at q1
        · rename_i v hv
          obtain ⟨h1', h2⟩ := rp
          rcases h2 with z | ⟨kvs, k1, k2, k3, k4⟩
          · exact absurd z hn
          · obtain ⟨u, hu, ru⟩ := look_ok k3 k4 hv
            exact ⟨h1', rfl, d', kvs, u, hd, k2, hu, q1 Φ1 H1 u .refl r1 ru⟩
        · exact q1.elim
      · exact q1.elim
    · exact q1.elim⟩
/-- isinstance(e, x), x a class of the program -/
def mErrI (a dd : Addr) (fs : List Str) (b : Bool) (me : EM) : EM := fun ρ h => (me ρ h).bind fun p h1 => match p with
  | .err a' _ d' fs' _ => if a' = a ∧ fs' = fs ∧ d' = dd then .ok (.bl b) h1 else .bad
  | _ => .bad
theorem me_errI {x : Str} {Cx : Addr} {fs : List Str} {b : Bool} {px : Pos} (T : ExcC X.K C) (hm : X.mg "isinstance" = none) (hmx : X.mg x = some (.ref Cx)) (hk : PySem.W.kitOne X.K (.ref C) (.ref Cx) = some b) (hz : Zc (.ref C) d oe) (hf : ∃ vs, oe.data = .fields vs) (hd : Dk fs d dd)
    (he : PE (X.suite a ((a, oe) :: pn)) e (tmE (gr X) W me)) (hgx : Gl X x := by rfl) (hdx : (x == ("__debug__" : Str)) = false := by decide) (hg : Gl X "isinstance" := by rfl)
    (hs : starEach [e, .Name x px] X.env = [(false, eval e X.env), (false, eval (.Name x px) X.env)] := by rfl) (hs2 : starEach [.Name x px] X.env = [(false, eval (.Name x px) X.env)] := by rfl) :
    PE (X.suite a ((a, oe) :: pn)) (.Call (.Name "isinstance" p) [e, .Name x px] [] pos) (tmE (gr X) W (mErrI a dd fs b me)) := by
  have hx : PE (X.suite a ((a, oe) :: pn)) (.Name x px) (tmE (gr X) W (mC (.gl x))) := me_gl (X := X.suite a ((a, oe) :: pn)) hmx hgx hdx
  refine PE_imp (pe_callB (X := X.suite a ((a, oe) :: pn)) (call_err T hz hf) hg hm (show bootBuiltins "isinstance" = some (.builtin "isinstance") by decide +kernel) (pa_cons he (pa_cons hx pa_nil hs2) hs) (by decide) (by decide) hs (by rw [show starEach [.Name x px] (X.suite a ((a, oe) :: pn)).env = _ from hs2]; rfl)) fun σ H Q ⟨ρ, h, Φ, r, rs, q⟩ => ?_
  refine ⟨ρ, h, Φ, r, rs, okO.bind q fun p h1 Φ1 H1 v e1 r1 rp q1 => ⟨ρ, h1, Φ1, r1, rs.ext e1, fun Φ2 H2 u e2 r2 ru => ?_⟩⟩
  split at q1
  · rename_i a' c' d' fs' xs
    split at q1
    · rename_i hc
      obtain ⟨rfl, rfl, rfl⟩ := hc
      obtain ⟨rfl, h2⟩ := rp
      obtain ⟨A, hA, rfl⟩ := ru
      have hA' : X.mg x = some (.ref A) := hA
      rw [hmx] at hA'
      cases hA'
      refine ⟨.ref Cx, .ref Cx, b, rfl, fun _ z => z, ?_, hk, q1 Φ2 H2 _ e2 r2 rfl⟩
      rcases hd with ⟨z1, z2⟩ | ⟨z1, z2⟩
      · exact .inl z2
      · rcases h2 with z | ⟨kvs, k1, k2, k3, k4⟩
        · exact absurd z z1
        · exact .inr ⟨d', kvs, z2, (e2.fr k1 k2).2⟩
    · exact q1.elim
  · exact q1.elim
end
theorem only_true {tb : List (Str × Bool)} {c x : Str} (h : tb.lookup c = some true) (k : tb.all (fun p => !p.2 || decide (p.1 = x)) = true) : c = x := by
  have := List.all_eq_true.mp k _ (PySem.mem_of_lookup h)
  simpa using this
theorem all_exm {K : PySem.W.Frag} {mg : Str → Option Value} {cv : Value} {tb : List (Str × Bool)} (h : ∀ p ∈ tb, ∀ C, mg p.1 = some (.ref C) → PySem.W.exmOne K (.ref C) cv = some p.2) (c : Str) (C : Addr) (b : Bool) (hl : tb.lookup c = some b)
    (hm : mg c = some (.ref C)) : PySem.W.exmOne K (.ref C) cv = some b := h (c, b) (PySem.mem_of_lookup hl) C hm
theorem exm_c {K : PySem.W.Frag} {mg : Str → Option Value} {cv : Value} {x : Str} {b : Bool} {A : Addr} {r : List (Str × Bool)} (hg : mg x = some (.ref A)) (he : PySem.W.exmOne K (.ref A) cv = some b) (h : ∀ p ∈ r, ∀ C, mg p.1 = some (.ref C) → PySem.W.exmOne K (.ref C) cv = some p.2) :
    ∀ p ∈ (x, b) :: r, ∀ C, mg p.1 = some (.ref C) → PySem.W.exmOne K (.ref C) cv = some p.2 := fun p hp C hm => by
  rcases List.mem_cons.mp hp with rfl | hp
  · cases hg.symm.trans hm
    exact he
  · exact h p hp C hm
theorem exm_n {K : PySem.W.Frag} {mg : Str → Option Value} {cv : Value} : ∀ p ∈ ([] : List (Str × Bool)), ∀ C, mg p.1 = some (.ref C) → PySem.W.exmOne K (.ref C) cv = some p.2 := fun p hp => by cases hp
end Ev
/-! Ev11: told(lambda: body): try: found = (word, call()) / clauses / return found. -/
namespace Ev
open PySem PySem.Spec PyProof.Rows L2
noncomputable def toldS (w : Str) (zs : List CM) (i n : Nat) : Out PV → SO
  | .ok p h => .nx ((List.replicate n none).set i (some (.tup [.str w, p]))) h
  | .ex c fs xs h => hand c fs xs (List.replicate n none) h zs
  | .bad => .bad
noncomputable def toldO (w : Str) (zs : List CM) (i n : Nat) (o : Out PV) : Out PV := match toldS w zs i n o with
  | .nx ρ h => mV i ρ h
  | _ => .bad
/-- what the teller makes of what it is given -/
def TTm (G : Gr) (w : Str) (zs : List CM) (i n : Nat) : (XK → Hp → VK → Prop) → Hp → VK → Prop := fun tl H Q =>
  ∃ (o : Out PV) (h : PH) (Φ : Fo), Hr G Φ H h ∧ (∀ (E : XK) (Q' : VK), okO (R G) G (fun c d _ H => E c d H) Q' [] Φ H o → tl E H Q') ∧ okO (R G) G W0 Q [] Φ H (toldO w zs i n o)
abbrev Zc0 (X : Cx) (Ng : List Str) (x : Str) (sg : Scope) (g : Addr) (cdg : Value) (s : Shared) (H : Hp) : Cx := (cxOf C8.CX0 X.prog X.w X.K X.mg X.base Ng x sg g cdg X.A X.stack s H C8.E0).nox
theorem takes_len {X : Cx} {W : WX} (tk : Takes X W) : Takes X (fun cls d σ' H' => σ'.length = X.N.length → W cls d σ' H') := fun u s' x => by
  obtain ⟨a, B, sI, pins', σ', H', cls, d, e, J, nb, up, sky, na, os, ag, w⟩ := x
  exact tk u s' ⟨a, B, sI, pins', σ', H', cls, d, e, J, nb, up, sky, na, os, ag, w J.len⟩
theorem told_gives {X : Cx} {Ng : List Str} {x q w a y : Str} {sg : Scope} {g : Addr} {cdg : Value} {i k : Nat} {j1 : Nat} {p1 p2 p3 p4 p5 p6 p7 p8 p9 : Pos} {h0 : ExceptHandler} {hds : List ExceptHandler} {zs : List CM}
    (nd : Ng.Nodup) (hy : Ng[i + 1]? = some y) (hl : Loc sg y) (hf : sg.names.lookup y = some .local) (hd : (y == ("__debug__" : Str)) = false) (hcd : (y == ("__classdict__" : Str)) = false)
    (hh : ∀ (s : Shared) (H : Hp), ∃ l, CLs (Zc0 X Ng x sg g cdg s H) (h0 :: hds) zs l)
    (hsw : ∀ (s : Shared) (H : Hp) (pn : List (Addr × Obj)) (xe : Value → Shared → Prop), swapsWith (.Tuple [.Constant (.str w) j1 p1, .Call (.Name a p2) [] [] p3] k p4) (some (.Name y p5)) p6.line ((Zc0 X Ng x sg g cdg s H).tr pn xe).env = pure false)
    (hst : ∀ (s : Shared) (H : Hp) (pn : List (Addr × Obj)) (xe : Value → Shared → Prop), starEach [.Constant (.str w) j1 p1, .Call (.Name a p2) [] [] p3] ((Zc0 X Ng x sg g cdg s H).tr pn xe).env = (false, eval (.Constant (.str w) j1 p1) ((Zc0 X Ng x sg g cdg s H).tr pn xe).env) :: starEach [.Call (.Name a p2) [] [] p3] ((Zc0 X Ng x sg g cdg s H).tr pn xe).env)
    (hst2 : ∀ (s : Shared) (H : Hp) (pn : List (Addr × Obj)) (xe : Value → Shared → Prop), starEach [.Call (.Name a p2) [] [] p3] ((Zc0 X Ng x sg g cdg s H).tr pn xe).env = (false, eval (.Call (.Name a p2) [] [] p3) ((Zc0 X Ng x sg g cdg s H).tr pn xe).env) :: starEach [] ((Zc0 X Ng x sg g cdg s H).tr pn xe).env) :
    LamX.GivesTo X Ng x sg g cdg [.Try [.Assign [.Name y p5] (.Tuple [.Constant (.str w) j1 p1, .Call (.Name a p2) [] [] p3] k p4) p6] (h0 :: hds) [] [] p7, .Return (some (.Name y p8)) p9] a q (TTm (gr X) w zs (i + 1) Ng.length) := by
  intro f c' s H Q tl act hc hT
  obtain ⟨l, hcl⟩ := hh s H
  have hv : Vis sg y := hl.elim (fun z => .inl z) fun z => .inr (.inl z)
  have nN : 0 < Ng.length := by
    have := (List.getElem?_eq_some_iff.mp hy).1
    omega
  have st0 : L2.start Ng [V.ref f] = some (.ref f) :: List.replicate (Ng.length - 1) none := rfl
  refine ⟨_, pss_cons (ps_try_all (X := Zc0 X Ng x sg g cdg s H) (l := l) (Wo := fun _ _ _ _ => False)
      (tb := fun W D σ H => ∃ E : XK, (∀ cls d σ' H', σ'.length = Ng.length → E cls d H' → W cls d σ' H') ∧ σ[0]? = some (some (.ref f)) ∧ H c' = some (LamX.CodeO c' q) ∧ tl E H (fun v H1 => 2 ≤ sizeLine ∧ ∀ p, H1 p = none → D.nx (σ.set (i + 1) (some (.ref p))) (upd H1 p (.tup [.str w, v]))))
      rfl rfl nd LamX.takes0 (fun W pn xe tk _ => ?_) hcl.clauses) (ms_one (ms_ret (W := W0) (me_v (i + 1) hy hv hd hcd))), ?_⟩
  · refine ⟨fun pins s' σ H' D I ⟨E, hW, h1, h2, h3⟩ => ?_⟩
    have hp := act (fun cls d σ' H' => σ'.length = Ng.length → W cls d σ' H') pn xe E p2 p3 (takes_len tk) fun cls d σ' H' e l => hW cls d σ' H' l e
    have hq := pss_one (ps_set (pos := p6) (pos' := p5) (i := i + 1) nd hy hl (pe_tup (x1 := k) (pos := p4) (pa_cons (pe_str (x := w) (j := j1) (pos := p1)) (pa_cons hp pa_nil (hst2 s H pn xe)) (hst s H pn xe))) (hsw s H pn xe) (.inr hf))
    exact hq.run pins s' σ H' D I ⟨h1, h2, h3⟩
  · obtain ⟨o, h, Φ, r, ht, qq⟩ := hT
    have rs0 : Ros (gr X) Φ H (List.replicate Ng.length none) (L2.start Ng [V.ref f]) := by
      refine ⟨by rw [st0]; simp; omega, fun j p e => ?_⟩
      rw [List.getElem?_replicate] at e
      split at e <;> cases e
    have len0 : i + 1 < (L2.start Ng [V.ref f]).length := by
      rw [← rs0.len, List.length_replicate]
      exact (List.getElem?_eq_some_iff.mp hy).1
    have fin : ∀ {ρ : Ro} {h1 : PH}, okO (R (gr X)) (gr X) W0 Q [] Φ H (mV (i + 1) ρ h1) → ∀ Φ' H' σ', Ext Φ H Φ' H' → Hr (gr X) Φ' H' h1 → Ros (gr X) Φ' H' ρ σ' → tsm (gr X) W0 (mRet (mV (i + 1))) { nx := fun _ H' => Q .non H', rt := Q } σ' H' := fun {ρ h1} q Φ' H' σ' e r' rs' => by
      refine ⟨ρ, h1, Φ', r', rs', ?_⟩
      unfold mRet
      cases z : mV (i + 1) ρ h1 with
      | ok v h2 => rw [z] at q; exact fun Φ2 H2 u e2 r2 rv => q Φ2 H2 u (e.trans e2) r2 rv
      | ex c fs xs h2 => rw [z] at q; exact fun Φ2 H2 C d σ2 e2 r2 _ m x => q Φ2 H2 C d (e.trans e2) r2 m x
      | bad => rw [z] at q; exact q
    refine ⟨fun cls d H' => ∀ σ', σ'.length = Ng.length → wAll X.K (fun _ _ _ _ => False) _ l cls d σ' H', fun cls d σ' H' l e => e σ' l, by rw [st0]; rfl, hc, ht _ _ ?_⟩
    unfold toldO at qq
    cases o with
    | bad => exact qq.elim
    | ok p h1 =>
      refine fun Φ' H' v e r' rv => ⟨by decide, fun pp hp => ?_⟩
      obtain ⟨n1, n2, n3⟩ := newT_ok (xs := [.str w, p]) r' (vs := [.str w, v]) ⟨_, _, rfl, rfl, _, _, rfl, rv, rfl⟩ hp
      exact fin (ρ := (List.replicate Ng.length none).set (i + 1) (some (.tup [.str w, p]))) qq Φ' _ _ (e.trans n1) n2 (((rs0.ext e).ext n1).set (i + 1) n3)
    | ex c fs xs h1 =>
      refine fun Φ' H' C d e r' m xr σ' hlen => ?_
      have rs1 : Ros (gr X) Φ' H' (List.replicate Ng.length none) σ' := by
        refine ⟨by rw [List.length_replicate, hlen], fun j p e => ?_⟩
        rw [List.getElem?_replicate] at e
        split at e <;> cases e
      refine hand_ok (X := Zc0 X Ng x sg g cdg s H) (W := fun _ _ _ _ => False) hcl (Φ := Φ) (H := H) (ρ := List.replicate Ng.length none) (h := h1) ?_ Φ' H' C d σ' e r' rs1 m xr
      have qq' : okO (R (gr X)) (gr X) W0 Q [] Φ H (match hand c fs xs (List.replicate Ng.length none) h1 zs with
        | .nx ρ h => mV (i + 1) ρ h
        | _ => .bad) := qq
      revert qq'
      generalize hand c fs xs (List.replicate Ng.length none) h1 zs = so
      intro qq'
      cases so with
      | nx ρ h2 => exact fun Φ2 H2 σ2 e2 r2 rs2 => fin qq' Φ2 H2 σ2 e2 r2 rs2
      | rt v h2 => exact qq'.elim
      | bk ρ h2 => exact qq'.elim
      | ct ρ h2 => exact qq'.elim
      | ex c fs xs ρ h2 => exact qq'.elim
      | bad => exact qq'.elim
/-! ### the call told(lambda: body) -/
def noTab : PO → Bool
  | .tab _ _ => false
  | _ => true
def tabOk (P : Addr) (q : Str) : PH → Bool
  | .tab P' q' :: r => decide (P' = P) && decide (q' = q) && r.all noTab
  | _ => false
theorem tabOk_iff {P : Addr} {q : Str} {h : PH} (e : tabOk P q h = true) : ∃ r, h = .tab P q :: r ∧ r.all noTab = true := by
  unfold tabOk at e
  split at e
  · rename_i P' q' r
    obtain ⟨e1, e2⟩ := Bool.and_eq_true_iff.mp e
    obtain ⟨e3, e4⟩ := Bool.and_eq_true_iff.mp e1
    exact ⟨r, by rw [of_decide_eq_true e3, of_decide_eq_true e4], e2⟩
  · cases e
noncomputable def mTold (P : Addr) (q w : Str) (zs : List CM) (i n : Nat) (mb : EM) : EM := fun ρ h => if tabOk P q h = true then toldO w zs i n (mb ρ h) else .bad
theorem toldO_cases (w : Str) (zs : List CM) (i n : Nat) (o : Out PV) : (∃ p h, toldO w zs i n o = .ok p h) ∨ toldO w zs i n o = .bad := by
  unfold toldO
  split
  · unfold mV
    split
    · exact .inl ⟨_, _, rfl⟩
    · exact .inr rfl
  · exact .inr rfl
theorem lam_heap {G : Gr} {Φ : Fo} {H H1 : Hp} {P : Addr} {q : Str} {rest : PH} (r : Hr G Φ H (.tab P q :: rest)) (hn : rest.all noTab = true) (eN : LamX.ExtN H H1) (T1 : LamX.Tabs [(P, q)] H1) : Ext Φ H Φ H1 ∧ Hr G Φ H1 (.tab P q :: rest) := by
  have e : Ext Φ H Φ H1 := ⟨fun _ z => z, fun _ z n _ => absurd z n, List.prefix_rfl, fun _ z n => absurd z n, fun a o _ h k => eN a o h k⟩
  have hP : Φ.φ[0]? = some P := by
    obtain ⟨a, h1, h2, _⟩ := r.ob 0 _ rfl
    rw [← h2]; exact h1
  have exs1 : ∀ a ∈ Φ.ex, a ∉ Φ.φ ∧ ∃ vs, H1 a = some (.lst vs) := fun a ha => let ⟨n, vs, q⟩ := r.exs a ha; ⟨n, vs, eN a _ q fun _ z => nomatch z⟩
  have low : ∀ (n : Nat) (o : PO), rest[n]? = some o → ∃ a, Φ.φ[n + 1]? = some a ∧ Ob G Φ H o a ∧ H1 a = H a := fun n o z => by
    obtain ⟨a, h1, h2⟩ := r.ob (n + 1) o z
    have nt := List.all_eq_true.mp hn o (List.mem_of_getElem? z)
    refine ⟨a, h1, h2, ?_⟩
    cases o with
    | tab P q => cases nt
    | lst xs => obtain ⟨vs, k, _⟩ := h2; rw [k]; exact eN a _ k fun _ z => nomatch z
    | dct ks xs => obtain ⟨vs, k, _⟩ := h2; rw [k]; exact eN a _ k fun _ z => nomatch z
    | ins c fs xs => obtain ⟨C, dx, vs, _, k, _⟩ := h2; rw [k]; exact eN a _ k fun _ z => nomatch z
  refine ⟨e, r.nd, r.len, exs1, fun n o z => ?_⟩
  cases n with
  | succ n =>
    obtain ⟨a, h1, h2, h3⟩ := low n o z
    exact ⟨a, h1, h2.mv e.mv h3⟩
  | zero =>
    cases z
    obtain ⟨ps, t1, t2, t3⟩ := T1 (P, q) List.mem_cons_self
    refine ⟨P, hP, rfl, ps, t1, t2, fun pos cv hc => ?_⟩
    obtain ⟨c, c1, c2⟩ := t3 pos cv hc
    refine ⟨c, c1, ⟨fun m => ?_, fun m => ?_⟩, c2⟩
    · obtain ⟨j, hj, ej⟩ := List.getElem_of_mem m
      have ej' : Φ.φ[j]? = some c := by rw [List.getElem?_eq_getElem hj, ej]
      cases j with
      | zero =>
        rw [hP] at ej'
        cases ej'
        rw [t1] at c2
        unfold LamX.CodeO at c2
        cases c2
      | succ j =>
        have hl : j < rest.length := by
          have := r.len
          simp at this
          omega
        obtain ⟨a, h1, h2, h3⟩ := low j rest[j] (List.getElem?_eq_getElem hl)
        rw [ej'] at h1
        cases h1
        rw [h3] at c2
        unfold LamX.CodeO at c2
        cases ho : rest[j] with
        | tab P q => rw [ho] at h2; obtain ⟨_, vs, k, _⟩ := h2; rw [k] at c2; cases c2
        | lst xs => rw [ho] at h2; obtain ⟨vs, k, _⟩ := h2; rw [k] at c2; cases c2
        | dct ks xs => rw [ho] at h2; obtain ⟨vs, k, _⟩ := h2; rw [k] at c2; cases c2
        | ins c fs xs => rw [ho] at h2; obtain ⟨C, dx, vs, _, k, _⟩ := h2; rw [k] at c2; cases c2
    · obtain ⟨_, vs, k⟩ := exs1 c m
      unfold LamX.CodeO at c2
      rw [k] at c2
      cases c2
theorem told_ok {X : Cx} {W : WX} {P : Addr} {q w : Str} {zs : List CM} {i n : Nat} {mb : EM} {σ : Sl} {H : Hp} {Q : VK} (h : tmE (gr X) W (mTold P q w zs i n mb) σ H Q) :
    LamX.tLam [(P, q)] (TTm (gr X) w zs i n) (fun E => tmE (gr X) (fun c d _ H => E c d H) mb) σ H Q := by
  obtain ⟨ρ, h, Φ, r, rs, qq⟩ := h
  unfold mTold at qq
  split at qq
  · rename_i ht
    obtain ⟨rest, rfl, hn⟩ := tabOk_iff ht
    obtain ⟨a, h1, h2, ps, h3, h4, h5⟩ := r.ob 0 _ rfl
    refine ⟨fun p hp => ?_, fun H1 eN T1 => ?_⟩
    · rw [List.mem_singleton.mp hp]
      exact ⟨ps, h2 ▸ h3, h4, fun pos cv hc => let ⟨c, c1, _, c2⟩ := h5 pos cv hc; ⟨c, c1, c2⟩⟩
    · obtain ⟨e, r1⟩ := lam_heap r hn eN T1
      refine ⟨mb ρ (.tab P q :: rest), _, Φ, r1, fun E Q' k => ⟨ρ, _, Φ, r1, rs.ext e, ?_⟩, ?_⟩
      · revert k
        generalize mb ρ (.tab P q :: rest) = o
        intro k
        cases o with
        | ok a h' => exact k
        | ex c fs xs h' => exact k
        | bad => exact k
      · rcases toldO_cases w zs i n (mb ρ (.tab P q :: rest)) with ⟨p, h', z⟩ | z
        · rw [z] at qq ⊢
          exact okO.start (o := .ok p h') e qq
        · rw [z] at qq
          exact qq.elim
  · exact qq.elim
end Ev
/-! Ev12: operators of several kinds; constants; the empty dict. -/
namespace Ev
open PySem PySem.Spec PyProof.Rows L2
section
variable {X : Cx} {W : WX} {pos : Pos}
def fAdd (b : Bool) : OpF := orF fAddI (orF fAddS (orF fAddT (fAddL b)))
theorem om_add (b : Bool) : OpM X (binaryOp .Add) (fAdd b) := om_addI.or (om_addS.or (om_addT.or (om_addL b)))
def fMul (b : Bool) : OpF := orF fMulI (fRepL b)
theorem om_mul (b : Bool) : OpM X (binaryOp .Mult) (fMul b) := om_mulI.or (om_repL b)
def fIn (neg : Bool) : OpF := orF (fInS neg) (fInQ neg)
theorem om_in : OpM X (compareOp .In) (fIn false) := om_inS.or om_inQ
theorem om_notin : OpM X (compareOp .NotIn) (fIn true) := om_notInS.or om_notInQ
theorem me_kint {x : Str} {i : Int} (hm : ∃ t, X.mg x = some (.int i t)) (hg : Gl X x := by rfl) (hd : (x == ("__debug__" : Str)) = false := by decide) : PE X (.Name x pos) (tmE (gr X) W (mC (.int i))) := by
  obtain ⟨t, h⟩ := hm; exact me_cint h hg hd
theorem me_kstr {x : Str} {i : Str} (hm : ∃ t, X.mg x = some (.str i t)) (hg : Gl X x := by rfl) (hd : (x == ("__debug__" : Str)) = false := by decide) : PE X (.Name x pos) (tmE (gr X) W (mC (.str i))) := by
  obtain ⟨t, h⟩ := hm; exact me_cstr h hg hd
def mDct0 : EM := fun _ h => .ok (.dct [] []) h
theorem me_dct0 : PE X (.Dict [] [] pos) (tmE (gr X) W mDct0) := PE_imp pe_dnewK fun σ H Q ⟨ρ, h, Φ, r, rs, q⟩ => fun p hp => by
  have e : Ext Φ H Φ (upd H p (.dK [])) := Ext.laid r hp
  exact q Φ _ _ e (r.laid hp) ⟨p, [], rfl, r.fre hp, .inl upd_same, rfl, rfl⟩
end
end Ev
/-! Ev13: the end: what the head says of defs, classes, names; the law's own promise. -/
namespace Ev
open PySem PySem.Spec PyProof.Rows L2
section
variable {K : PySem.W.Frag} {mg : Str → Option Value} {h : Heap}
theorem def_mk {x : Str} {st : Stmt} {ps : List Str} {f : Addr} {oc : Value} {od an : Option Addr} {osl : Array (Option Value)} {kV doc pm cdv ct : Value} (X : K.In h) (G : h.Ns mainGlobals mg)
    (hb : ∀ (kV doc pm : Value) (an : Option Addr) (cdv ct : Value) (us : List Value), us.length = ps.length → bindArgs (PySem.W.fnOf x x (defArgs st) (defBody st) (defScope st) .none kV doc pm an cdv ct) ⟨us, []⟩ = pure (ps.zip us))
    (a : PySem.W.nsIn K mainGlobals x = some (some (.ref f))) (l : K.lookup f = some ⟨oc, od, .func (PySem.W.fnOf x x (defArgs st) (defBody st) (defScope st) .none kV doc pm an cdv ct), osl⟩)
    (c : PySem.W.codeIn K cdv x = true) (k : PySem.W.keepIn K (.ref f) = true) : ∃ f fd, Fun K x x st f fd ∧ Binds K fd ps [] ∧ mg x = some (.ref f) :=
  have F := fun_mk (st := st) l c k
  ⟨f, _, F, F.binds hb, PySem.W.mg_of X G a⟩
theorem kint_mk {x : Str} {i : Int} {t : Tok} (X : K.In h) (G : h.Ns mainGlobals mg) (a : PySem.W.nsIn K mainGlobals x = some (some (.int i t))) : ∃ t, mg x = some (.int i t) := ⟨t, PySem.W.mg_of X G a⟩
theorem kstr_mk {x : Str} {i : Str} {t : Tok} (X : K.In h) (G : h.Ns mainGlobals mg) (a : PySem.W.nsIn K mainGlobals x = some (some (.str i t))) : ∃ t, mg x = some (.str i t) := ⟨t, PySem.W.mg_of X G a⟩
/-- a class: where it lies, and what is asked of it -/
theorem cls_mk {x : Str} {C : Addr} {Z : Addr → Prop} (X : K.In h) (G : h.Ns mainGlobals mg) (a : PySem.W.nsIn K mainGlobals x = some (some (.ref C))) (z : Z C) : ∃ C, mg x = some (.ref C) ∧ Z C := ⟨C, PySem.W.mg_of X G a, z⟩
/-- the law's own def, its code, its table -/
theorem law_mk {x : Str} {st : Stmt} {fa f c P : Addr} {oc : Value} {od an : Option Addr} {osl : Array (Option Value)} {kV doc pm ct : Value} {cd : Option Addr} {vs : Array Value} {csl : Array (Option Value)} {file : Str} {tf tg tt : Tok} {flags text : Int} {inF : Bool}
    (X : K.In h) (G : h.Ns mainGlobals mg) (hfa : mg x = some (.ref fa)) (own : LamX.OwnTab K fa h)
    (a : PySem.W.nsIn K mainGlobals x = some (some (.ref f))) (l : K.lookup f = some ⟨oc, od, .func (PySem.W.fnOf x x (defArgs st) (defBody st) (defScope st) .none kV doc pm an (.ref c) ct), osl⟩)
    (lc : K.lookup c = some ⟨.type "code", cd, .fields vs, csl⟩) (v11 : vs[11]? = some (.ref P)) (v18 : vs.getD 18 .none = .str file tf) (v7 : vs.getD 7 .none = .int flags tg) (v9 : vs.getD 9 .none = .bool inF) (v10 : vs.getD 10 .none = .int text tt) (nc : c ≠ P) (nP : K.lookup P = none)
    (hc : PySem.W.codeIn K (.ref c) x = true) (k : PySem.W.keepIn K (.ref f) = true) :
    ∃ (c P : Addr) (oc kV doc pm ct : Value) (od an : Option Addr) (osl : Array (Option Value)), K.lookup fa = some ⟨oc, od, .func (PySem.W.fnOf x x (defArgs st) (defBody st) (defScope st) .none kV doc pm an (.ref c) ct), osl⟩ ∧ PySem.W.codeIn K (.ref c) x = true ∧ PySem.W.keepIn K (.ref fa) = true ∧
      h.get? P = some { cls := .none, data := .fields #[] } ∧ K.lookup P = none ∧ PySem.W.CodeHd h c P := by
  have e := hfa.symm.trans (PySem.W.mg_of X G a)
  cases e
  have g11 : vs.getD 11 .none = .ref P := by rw [Array.getD_eq_getD_getElem?, v11]; rfl
  exact ⟨c, P, oc, kV, doc, pm, ct, od, an, osl, l, hc, k, own c P _ _ _ _ _ _ l rfl rfl lc v11, nP, _, vs, file, tf, flags, tg, inF, text, tt, X _ _ lc, rfl, rfl, v11, g11, v18, v7, v9, v10, nc⟩
end
theorem kit_mk {K : PySem.W.Frag} {C D : Addr} (h2 : PySem.W.isClsIn K D = true) (h3 : PySem.W.typeIn K (.ref D) = some (.type "type")) (h4 : PySem.W.subIn K (.ref C) (.ref D) = some true) : PySem.W.kitOne K (.ref C) (.ref D) = some true := by
  have h2' : (PySem.W.clsIn K D).isSome = true := h2
  have e2 : ((PySem.W.clsIn K D).isSome && PySem.W.typeIn K (.ref D) == some (.type "type")) = true := by rw [h2', h3]; rfl
  unfold PySem.W.kitOne
  split
  · rfl
  · show (if ((PySem.W.clsIn K D).isSome && PySem.W.typeIn K (.ref D) == some (.type "type")) = true then PySem.W.subIn K (.ref C) (.ref D) else none) = some true
    rw [if_pos e2, h4]
theorem exm_mk {K : PySem.W.Frag} {C D : Addr} {b : Bool} (h1 : PySem.W.subIn K (.ref D) (.type "BaseException") = some true) (h2 : PySem.W.isClsIn K D = true) (h3 : PySem.W.typeIn K (.ref D) = some (.type "type")) (h4 : PySem.W.subIn K (.ref C) (.ref D) = some b) : PySem.W.exmOne K (.ref C) (.ref D) = some b := by
  have h2' : (PySem.W.clsIn K D).isSome = true := h2
  have e1 : (PySem.W.subIn K (.ref D) (.type "BaseException") == some true) = true := by rw [h1]; rfl
  have e2 : ((PySem.W.clsIn K D).isSome && PySem.W.typeIn K (.ref D) == some (.type "type")) = true := by rw [h2', h3]; rfl
  unfold PySem.W.exmOne
  rw [if_pos e1]
  show (if ((PySem.W.clsIn K D).isSome && PySem.W.typeIn K (.ref D) == some (.type "type")) = true then PySem.W.subIn K (.ref C) (.ref D) else none) = some b
  rw [if_pos e2, h4]
/-- the law's promise from its mirror's answer -/
theorem lawAt {l : PySem.W.OpenLaw} {w : World} {K : PySem.W.Frag} {k n : Nat} {x pn : Str} {mg : Str → Option Value} {fa c P : Addr} {h : Heap} {st : Stmt} {kV doc pm ct : Value} {an : Option Addr} {q : Str} {m : DF}
    (hP : h.get? P = some { cls := .none, data := .fields #[] }) (nP : K.lookup P = none) (C : PySem.W.CodeHd h c P)
    (hb : ∀ (s : Shared) (u : Value), BindsTo s (PySem.W.fnOf x x (defArgs st) (defBody st) (defScope st) .none kV doc pm an (.ref c) ct) ⟨[u], []⟩ [(pn, u)])
    (hm : ∀ ns : List Int, ns.length ≤ n → ∃ h', m [.rol (ns.map PV.int)] [.tab P q] = .ok (.bl true) h')
    (hF : ∀ base : Heap, K.In base → base.Ns mainGlobals mg → LamX.TabB base mg c P → FnM l.prog w K mg base k fa (PySem.W.fnOf x x (defArgs st) (defBody st) (defScope st) .none kV doc pm an (.ref c) ct) [pn] m) : LamX.LawAtS l w K (L2.CX l.prog w) k n pn mg fa h := by
  refine ⟨_, [(c, P)], spM ⟨K, mg⟩ 1 m, fun p hp => ?_, fun p hp => ?_, fun p hp => ?_, hb, fun H a ns hl _ hT hS => ⟨rfl, ?_⟩, fun base X G T => hF base X G (T (c, P) List.mem_cons_self)⟩
  · rw [List.mem_singleton.mp hp]; exact hP
  · rw [List.mem_singleton.mp hp]; exact nP
  · rw [List.mem_singleton.mp hp]; exact C
  · obtain ⟨h', e⟩ := hm ns hl
    have tP := hT (c, P) List.mem_cons_self
    refine ⟨[.rol (ns.map PV.int)], [.tab P q], ⟨[P], []⟩, ⟨by simp, rfl, (fun a ha => by cases ha), fun m o z => ?_⟩, ?_, ?_⟩
    · cases m with
      | zero =>
        cases z
        exact ⟨P, rfl, rfl, #[], tP, trivial, fun pos cv hc => by simp [codeAmong] at hc⟩
      | succ m => cases z
    · refine ⟨_, [], rfl, ⟨a, ns.map V.int, rfl, ?_, Rs.ints ns⟩, rfl⟩
      rcases hS with hS | hS
      · refine .inl ⟨⟨fun z => ?_, fun z => by cases z⟩, hS⟩
        have ea : a = P := List.mem_singleton.mp z
        have tP' : H a = some (.tbl #[]) := by rw [ea]; exact tP
        rcases hS with hS | ⟨o, hS⟩
        · rw [hS] at tP'; cases tP'
        · rw [hS] at tP'; cases tP'
      · exact .inr hS
    · rw [e]
      exact fun Φ' H' u e r ru => ru
end Ev
/-! P1: plain evaluation: values without references, comprehensions over pure parts, leaving a def. -/
namespace Ev
open PySem PySem.Spec PyProof.Rows L2
mutual
/-- no reference within -/
def nr : PV → Bool
  | .ref _ => false
  | .tup xs => nrs xs
  | .lst xs => nrs xs
  | .rol xs => nrs xs
  | .dct _ xs => nrs xs
  | .ins _ _ xs => nrs xs
  | .err _ _ _ _ _ => false
  | .non => true
  | .bl _ => true
  | .int _ => true
  | .str _ => true
  | .ty _ => true
  | .gl _ => true
def nrs : List PV → Bool
  | [] => true
  | p :: ps => nr p && nrs ps
end
def nrO : PO → Bool
  | .lst xs => nrs xs
  | .dct _ xs => nrs xs
  | .ins _ _ xs => nrs xs
  | .tab _ _ => true
section
variable {f : Nat → PV} {n : Nat}
mutual
theorem sub_nr : ∀ {p : PV}, nr p = true → sub f p = p
  | .ref _, h => by simp [nr] at h
  | .tup xs, h => by simp only [sub]; rw [subs_nr h]
  | .lst xs, h => by simp only [sub]; rw [subs_nr h]
  | .rol xs, h => by simp only [sub]; rw [subs_nr h]
  | .dct _ xs, h => by simp only [sub]; rw [subs_nr h]
  | .ins _ _ xs, h => by simp only [sub]; rw [subs_nr h]
  | .err _ _ _ _ _, h => by simp [nr] at h
  | .non, _ => rfl
  | .bl _, _ => rfl
  | .int _, _ => rfl
  | .str _, _ => rfl
  | .ty _, _ => rfl
  | .gl _, _ => rfl
theorem subs_nr : ∀ {p : List PV}, nrs p = true → subs f p = p
  | [], _ => rfl
  | p :: ps, h => by
    have h' := Bool.and_eq_true_iff.mp h
    simp only [subs]
    rw [sub_nr h'.1, subs_nr h'.2]
end
mutual
theorem cl_nr : ∀ {p : PV}, nr p = true → cl n p = true
  | .ref _, h => by simp [nr] at h
  | .tup xs, h => by simp only [cl]; exact cls_nr h
  | .lst xs, h => by simp only [cl]; exact cls_nr h
  | .rol xs, h => by simp only [cl]; exact cls_nr h
  | .dct _ xs, h => by simp only [cl]; exact cls_nr h
  | .ins _ _ xs, h => by simp only [cl]; exact cls_nr h
  | .err _ _ _ _ _, h => by simp [nr] at h
  | .non, _ => rfl
  | .bl _, _ => rfl
  | .int _, _ => rfl
  | .str _, _ => rfl
  | .ty _, _ => rfl
  | .gl _, _ => rfl
theorem cls_nr : ∀ {p : List PV}, nrs p = true → cls n p = true
  | [], _ => rfl
  | p :: ps, h => by
    have h' := Bool.and_eq_true_iff.mp h
    simp only [cls]
    rw [cl_nr h'.1, cls_nr h'.2]
    rfl
end
theorem subO_nr : ∀ {o : PO}, nrO o = true → subO f o = o
  | .lst xs, h => by simp only [subO]; rw [subs_nr h]
  | .dct _ xs, h => by simp only [subO]; rw [subs_nr h]
  | .ins _ _ xs, h => by simp only [subO]; rw [subs_nr h]
  | .tab _ _, _ => rfl
theorem clO_nr : ∀ {o : PO}, nrO o = true → clO n o = true
  | .lst xs, h => cls_nr h
  | .dct _ xs, h => cls_nr h
  | .ins _ _ xs, h => cls_nr h
  | .tab _ _, _ => rfl
theorem mapO_nr : ∀ {h : PH}, h.all nrO = true → h.map (subO f) = h
  | [], _ => rfl
  | o :: h, k => by
    have k' := Bool.and_eq_true_iff.mp k
    rw [List.map_cons, subO_nr k'.1, mapO_nr k'.2]
theorem allO_nr {h : PH} (k : h.all nrO = true) : h.all (clO n) = true := List.all_eq_true.mpr fun o ho => clO_nr (List.all_eq_true.mp k o ho)
end
/-- a def is left with a value without references: its own objects are dropped -/
theorem outF_nr {frz : Bool} {h e : PH} {v : PV} (hh : h.all nrO = true) (hv : nr v = true) : outF true h.length v (h ++ e) = .ok v h := by
  unfold outF
  split
  · rename_i k
    rcases k with k | k
    · have : e = [] := by
        rw [List.length_append] at k
        exact List.eq_nil_of_length_eq_zero (by omega)
      rw [this, List.append_nil]
    · cases k
  · rw [List.take_left, sub_nr hv, cl_nr hv, mapO_nr hh, allO_nr hh]
    rfl
theorem outX_nr {h e : PH} {c : Str} {fs : List Str} {xs : List PV} (hh : h.all nrO = true) (hv : nrs xs = true) : outX true h.length c fs xs (h ++ e) = .ex c fs xs h := by
  unfold outX
  split
  · rename_i k
    rcases k with k | k
    · have : e = [] := by
        rw [List.length_append] at k
        exact List.eq_nil_of_length_eq_zero (by omega)
      rw [this, List.append_nil]
    · cases k
  · rw [List.take_left, subs_nr hv, cls_nr hv, mapO_nr hh, allO_nr hh]
    rfl
theorem outF_same {frz : Bool} {h : PH} {v : PV} {n : Nat} (hn : h.length = n) : outF frz n v h = .ok v h := by
  unfold outF
  rw [if_pos (Or.inl hn)]
theorem outX_same {frz : Bool} {h : PH} {c : Str} {fs : List Str} {xs : List PV} {n : Nat} (hn : h.length = n) : outX frz n c fs xs h = .ex c fs xs h := by
  unfold outX
  rw [if_pos (Or.inl hn)]
/-- a comprehension whose parts are pure: each item gives g of it -/
theorem compL_pure {α : Type} {chk : PH → Bool} {t : Tg} {me : EM} {ρ : Ro} {h : PH} (hc : chk h = true) (i : α → PV) (g : α → PV) :
    ∀ (xs : List α) (acc : List PV), (∀ x ∈ xs, ∃ ρ1, asg t (i x) ρ = some ρ1 ∧ me ρ1 h = .ok (g x) h) → acc.length + xs.length ≤ sizeLine → compL chk t tYes_ me ρ (xs.map i) acc h = .ok (acc ++ xs.map g) h
  | [], acc, _, _ => by simp [compL, hc]
  | x :: xs, acc, hx, hl => by
    obtain ⟨ρ1, e1, e2⟩ := hx x List.mem_cons_self
    have hl' : acc.length < sizeLine := by simp at hl; omega
    simp only [List.map_cons, compL, hc, if_true, e1, tYes_, noEx, Out.bind, e2, hl']
    rw [compL_pure hc i g xs (acc ++ [g x]) (fun y hy => hx y (List.mem_cons_of_mem _ hy)) (by simp at hl ⊢; omega)]
    simp
theorem mLc_pure {α : Type} {b : Bool} {own : List Nat} {mi : IMm} {t : Tg} {me : EM} {ρ : Ro} {h : PH} {s : Its} (i : α → PV) (g : α → PV) (xs : List α) (hi : mi ρ h = .ok s h) (hs : s.items = xs.map i) (hc : s.chk h = true)
    (hx : ∀ x ∈ xs, ∃ ρ1, asg t (i x) (wipeR ρ own) = some ρ1 ∧ me ρ1 h = .ok (g x) h) (hl : xs.length ≤ sizeLine) : mLc b own mi t tYes_ me ρ h = .ok (newL b (xs.map g) h).1 (newL b (xs.map g) h).2 := by
  unfold mLc
  rw [hi]
  simp only [Out.bind]
  rw [hs, compL_pure hc i g xs [] hx (by simpa using hl)]
  rfl
/-! ### == -/
@[simp] theorem shaped_int (i : Int) : SeqAt.shaped (.int i) = true := by simp [SeqAt.shaped, PyData.canLay0, PyData.depth]
@[simp] theorem shaped_bool (i : Bool) : SeqAt.shaped (.bool i) = true := by simp [SeqAt.shaped, PyData.canLay0, PyData.depth]
@[simp] theorem shaped_none : SeqAt.shaped .none = true := by simp [SeqAt.shaped, PyData.canLay0, PyData.depth]
@[simp] theorem fEq_int (i j : Int) (h : PH) : fEq (.int i) (.int j) h = some (.bl (decide (i = j)), h) := by
  simp only [fEq, orF, fEqS, fEqD, datH, dat, shaped_int, PyData.eqv, Bool.and_self, if_true]
  rfl
@[simp] theorem fNe_int (i j : Int) (h : PH) : fNe (.int i) (.int j) h = some (.bl (!decide (i = j)), h) := by
  simp only [fNe, orF, fNeS, fNeD, datH, dat, shaped_int, PyData.eqv, Bool.and_self, if_true]
  rfl
@[simp] theorem fEq_str (i j : Str) (h : PH) : fEq (.str i) (.str j) h = some (.bl (decide (i = j)), h) := rfl
@[simp] theorem fNe_str (i j : Str) (h : PH) : fNe (.str i) (.str j) h = some (.bl (!decide (i = j)), h) := rfl
@[simp] theorem fEq_bl (i j : Bool) (h : PH) : fEq (.bl i) (.bl j) h = some (.bl (decide (i = j)), h) := by
  simp only [fEq, orF, fEqS, fEqD, datH, dat, shaped_bool, PyData.eqv, Bool.and_self, if_true]
  rfl
/-! ### the combinators, opened by simp -/
@[simp] theorem ev_bind_ok {α β : Type} (a : α) (h : PH) (k : α → PH → Out β) : (Out.ok a h).bind k = k a h := rfl
@[simp] theorem ev_bind_ex {α β : Type} (c : Str) (fs : List Str) (xs : List PV) (h : PH) (k : α → PH → Out β) : (Out.ex (α := α) c fs xs h).bind k = .ex c fs xs h := rfl
@[simp] theorem ev_st_ok {α : Type} (a : α) (h : PH) (ρ : Ro) (k : α → PH → SO) : (Out.ok a h).st ρ k = k a h := rfl
@[simp] theorem ev_st_ex {α : Type} (c : Str) (fs : List Str) (xs : List PV) (h : PH) (ρ : Ro) (k : α → PH → SO) : (Out.ex (α := α) c fs xs h).st ρ k = .ex c fs xs ρ h := rfl
@[simp] theorem ev_opt_some {α : Type} (p : α × PH) : opt (some p) = .ok p.1 p.2 := rfl
@[simp] theorem ev_asB (b : Bool) (h : PH) : asB (.bl b) h = .ok b h := rfl
@[simp] theorem ev_mC (p : PV) (ρ : Ro) (h : PH) : mC p ρ h = .ok p h := rfl
@[simp] theorem ev_mBin (g : OpF) (a b : EM) (ρ : Ro) (h : PH) : mBin g a b ρ h = (a ρ h).bind fun p h1 => (b ρ h1).bind fun q h2 => opt (g p q h2) := rfl
@[simp] theorem ev_mCh (g g' : OpF) (a b c : EM) (ρ : Ro) (h : PH) : mCh g g' a b c ρ h = (a ρ h).bind fun p h1 => (b ρ h1).bind fun q h2 => (opt (g p q h2)).bind fun z h3 => match z with
  | .bl true => (c ρ h3).bind fun w h4 => opt (g' q w h4)
  | .bl false => .ok (.bl false) h3
  | _ => .bad := rfl
@[simp] theorem ev_mUn (g : UnF) (a : EM) (ρ : Ro) (h : PH) : mUn g a ρ h = (a ρ h).bind fun p h1 => opt (g p h1) := rfl
@[simp] theorem ev_mAnd (a b : EM) (ρ : Ro) (h : PH) : mAnd a b ρ h = (a ρ h).bind fun p h1 => (asB p h1).bind fun k h2 => if k then b ρ h2 else .ok (.bl false) h2 := rfl
@[simp] theorem ev_mOr (a b : EM) (ρ : Ro) (h : PH) : mOr a b ρ h = (a ρ h).bind fun p h1 => (asB p h1).bind fun k h2 => if k then .ok (.bl true) h2 else b ρ h2 := rfl
@[simp] theorem ev_mNot (a : EM) (ρ : Ro) (h : PH) : mNot a ρ h = (a ρ h).bind fun p h1 => (asB p h1).bind fun k h2 => .ok (.bl (!k)) h2 := rfl
@[simp] theorem ev_mIf (t : TMm) (a b : EM) (ρ : Ro) (h : PH) : mIf t a b ρ h = (t ρ h).bind fun k h1 => if k then a ρ h1 else b ρ h1 := rfl
@[simp] theorem ev_tB (a : EM) (ρ : Ro) (h : PH) : tB_ a ρ h = (a ρ h).bind fun p h1 => asB p h1 := rfl
@[simp] theorem ev_tAnd (a b : TMm) (ρ : Ro) (h : PH) : tAnd_ a b ρ h = (a ρ h).bind fun k h1 => if k then b ρ h1 else .ok false h1 := rfl
@[simp] theorem ev_tOr (a b : TMm) (ρ : Ro) (h : PH) : tOr_ a b ρ h = (a ρ h).bind fun k h1 => if k then .ok true h1 else b ρ h1 := rfl
@[simp] theorem ev_tNot (a : TMm) (ρ : Ro) (h : PH) : tNot_ a ρ h = (a ρ h).bind fun k h1 => .ok (!k) h1 := rfl
@[simp] theorem ev_mNil (ρ : Ro) (h : PH) : mNil ρ h = .ok [] h := rfl
@[simp] theorem ev_mCons (a : EM) (r : AM) (ρ : Ro) (h : PH) : mCons a r ρ h = (a ρ h).bind fun p h1 => (r ρ h1).bind fun ps h2 => .ok (p :: ps) h2 := rfl
@[simp] theorem ev_mCallB (g : CF) (as : AM) (ρ : Ro) (h : PH) : mCallB g as ρ h = (as ρ h).bind fun ps h1 => opt (g ps h1) := rfl
@[simp] theorem ev_mCall (g : DF) (as : AM) (ρ : Ro) (h : PH) : mCall g as ρ h = (as ρ h).bind fun ps h1 => g ps h1 := rfl
@[simp] theorem ev_mMt (T : String) (g : MF) (a : EM) (as : AM) (ρ : Ro) (h : PH) : mMt T g a as ρ h = (a ρ h).bind fun p h1 => if isT T h1 p then (as ρ h1).bind fun ps h2 => opt (g p ps h2) else .bad := rfl
@[simp] theorem ev_mTup (as : AM) (ρ : Ro) (h : PH) : mTup as ρ h = (as ρ h).bind fun ps h1 => if ps.length ≤ sizeLine then .ok (.tup ps) h1 else .bad := rfl
@[simp] theorem ev_mLst (b : Bool) (as : AM) (ρ : Ro) (h : PH) : mLst b as ρ h = (as ρ h).bind fun ps h1 => if ps.length ≤ sizeLine then .ok (newL b ps h1).1 (newL b ps h1).2 else .bad := rfl
@[simp] theorem ev_mSl (g : SlF) (a : EM) (lo hi : Ro → PH → Out (Option Int)) (ρ : Ro) (h : PH) : mSl g a lo hi ρ h = (a ρ h).bind fun p h1 => (lo ρ h1).bind fun l h2 => (hi ρ h2).bind fun u h3 => opt (g p l u h3) := rfl
@[simp] theorem ev_mNoPart (ρ : Ro) (h : PH) : mNoPart ρ h = .ok none h := rfl
@[simp] theorem ev_mPart (a : EM) (ρ : Ro) (h : PH) : mPart a ρ h = (a ρ h).bind fun p h1 => match p with
  | .int i => .ok (some i) h1
  | _ => .bad := rfl
@[simp] theorem ev_newL_f (xs : List PV) (h : PH) : newL false xs h = (.lst xs, h) := rfl
@[simp] theorem ev_newL_t (xs : List PV) (h : PH) : newL true xs h = (.ref h.length, h ++ [.lst xs]) := rfl
@[simp] theorem ev_mPass (ρ : Ro) (h : PH) : mPass ρ h = .nx ρ h := rfl
@[simp] theorem ev_mSeq (a b : SM) (ρ : Ro) (h : PH) : mSeq a b ρ h = (match a ρ h with
  | .nx ρ1 h1 => b ρ1 h1
  | r => r) := rfl
@[simp] theorem ev_mAsg (t : Tg) (e : EM) (ρ : Ro) (h : PH) : mAsg t e ρ h = (e ρ h).st ρ fun p h1 => match asg t p ρ with
  | some ρ1 => .nx ρ1 h1
  | none => .bad := rfl
@[simp] theorem ev_asg_nm (i : Nat) (p : PV) (ρ : Ro) : asg (.nm i) p ρ = some (ρ.set i (some p)) := rfl
@[simp] theorem ev_mIfS (t : TMm) (a b : SM) (ρ : Ro) (h : PH) : mIfS t a b ρ h = (t ρ h).st ρ fun k h1 => if k then a ρ h1 else b ρ h1 := rfl
@[simp] theorem ev_mRet (e : EM) (ρ : Ro) (h : PH) : mRet e ρ h = (e ρ h).st ρ fun p h1 => .rt p h1 := rfl
@[simp] theorem ev_mExpr (e : EM) (ρ : Ro) (h : PH) : mExpr e ρ h = (e ρ h).st ρ fun _ h1 => .nx ρ h1 := rfl
@[simp] theorem ev_mRaise0 (x : Str) (ρ : Ro) (h : PH) : mRaise0 x ρ h = .ex x [] [] ρ h := rfl
@[simp] theorem ev_mSetI (o i e : EM) (ρ : Ro) (h : PH) : mSetI o i e ρ h = (e ρ h).st ρ fun v h1 => (o ρ h1).st ρ fun p h2 => (i ρ h2).st ρ fun q h3 => match fSetL p q v h3 with
  | some h4 => .nx ρ h4
  | none => .bad := rfl
/-- a def applied: the body's outcome on the frame, told as the def is left -/
theorem mDef_run {n sl : Nat} {frz : Bool} {body : SM} {ps : List PV} {h : PH} {o : Out PV} (hl : ps.length = n)
    (hb : (match body (ps.map some ++ List.replicate (sl - n) none) h with
      | .nx _ h1 => outF frz h.length .non h1
      | .rt v h1 => outF frz h.length v h1
      | .ex c fs xs _ h1 => outX frz h.length c fs xs h1
      | _ => .bad) = o) : mDef n sl frz body ps h = o := by
  unfold mDef
  rw [if_pos hl]
  exact hb
/-- a loop that returns v at the first item that fails P -/
theorem forL_all {chk : PH → Bool} {t : Tg} {body : SM} {h : PH} (hc : chk h = true) (P : PV → Bool) (v : PV) (Q : Ro → Prop) : ∀ (xs : List PV) (ρ : Ro), Q ρ →
    (∀ x ∈ xs, ∀ ρ, Q ρ → ∃ ρ1 ρ2, asg t x ρ = some ρ1 ∧ body ρ1 h = (if P x = true then .nx ρ2 h else .rt v h) ∧ Q ρ2) →
    (xs.all P = true → ∃ ρ', forL chk t body xs ρ h = .nx ρ' h ∧ Q ρ') ∧ (xs.all P = false → forL chk t body xs ρ h = .rt v h)
  | [], ρ, hq, _ => ⟨fun _ => ⟨ρ, by simp [forL, hc], hq⟩, fun z => by simp at z⟩
  | x :: xs, ρ, hq, hx => by
    obtain ⟨ρ1, ρ2, e1, e2, hq2⟩ := hx x List.mem_cons_self ρ hq
    have ih := forL_all hc P v Q xs ρ2 hq2 fun y hy => hx y (List.mem_cons_of_mem _ hy)
    cases hP : P x with
    | true =>
      rw [hP, if_pos rfl] at e2
      refine ⟨fun ha => ?_, fun ha => ?_⟩
      · simp only [forL, hc, if_true, e1, e2]
        exact ih.1 (by simpa [hP] using ha)
      · simp only [forL, hc, if_true, e1, e2]
        exact ih.2 (by simpa [hP] using ha)
    | false =>
      rw [hP, if_neg Bool.false_ne_true] at e2
      refine ⟨fun ha => by simp [hP] at ha, fun _ => ?_⟩
      simp only [forL, hc, if_true, e1, e2]
end Ev
/-! Ev14: own classes: instances made, attributes read and stored, methods called. -/
namespace Ev
open PySem PySem.Spec PyProof.Rows L2

def fldsOf (h : PH) : PV → Option (Str × List Str × List PV)
  | .ref n => match h[n]? with
    | some (.ins c fs xs) => some (c, fs, xs)
    | _ => none
  | .ins c fs xs => some (c, fs, xs)
  | _ => none
theorem fldsOf_ok {G : Gr} {Φ : Fo} {H : Hp} {h : PH} {p : PV} {v : V} {c : Str} {fs : List Str} {xs : List PV} (r : Hr G Φ H h) (rp : R G Φ H p v) (e : fldsOf h p = some (c, fs, xs)) :
    ∃ a C dx kvs, v = .ref a ∧ G.mg c = some (.ref C) ∧ H a = some (.ins C dx kvs) ∧ kvs.map (·.1) = fs ∧ Rs G Φ H xs (kvs.map (·.2)) := by
  cases p with
  | ref n =>
    simp only [fldsOf] at e
    split at e
    · rename_i c' fs' xs' q
      cases e
      obtain ⟨a, h1, C, dx, kvs, g1, g2, g3, g4⟩ := r.ob n _ q
      obtain ⟨b, h2, rfl⟩ := rp
      rw [h1] at h2; cases h2
      exact ⟨a, C, dx, kvs, rfl, g1, g2, g3, g4⟩
    · cases e
  | ins c' fs' xs' =>
    cases e
    obtain ⟨a, C, dx, kvs, h1, h2, h3, h4, h5, h6⟩ := rp
    exact ⟨a, C, dx, kvs, h1, h2, h4, h5, h6⟩
  | _ => cases e

/-! ### o.f -/
def mAttr (c f : Str) (me : EM) : EM := fun ρ h => (me ρ h).bind fun p h1 => match fldsOf h1 p with
  | some (c', fs, xs) => if c' = c then (match look fs xs f with
    | some v => .ok v h1
    | none => .bad) else .bad
  | none => .bad
section
variable {X : Cx} {W : WX} {e o : Expr} {me mo : EM} {pos p apos : Pos} {c f : Str} {C : Addr}
theorem me_attr (T : X.mg c = some (.ref C)) (cl : Cls X.K C) (no : NoAttr X.K C f) (he : PE X e (tmE (gr X) W me)) (hb : attributeBase e f X.env (eval e X.env) = eval e X.env := by rfl) :
    PE X (.Attribute e f pos) (tmE (gr X) W (mAttr c f me)) :=
  PE_imp (pe_fld he hb) fun σ H Q ⟨ρ, h, Φ, r, rs, q⟩ => ⟨ρ, h, Φ, r, rs, okO.bind q fun p h1 Φ1 H1 x e1 r1 rp q1 => by
    split at q1
    · rename_i c' fs xs ef
      split at q1
      · rename_i hc
        subst hc
        split at q1
        · rename_i v hv
          obtain ⟨a, C', dx, kvs, rfl, g1, g2, g3, g4⟩ := fldsOf_ok r1 rp ef
          have ec : C' = C := by
            have z := g1.symm.trans T
            cases z
            rfl
          subst ec
          obtain ⟨u, hu, ru⟩ := look_ok g3 g4 hv
          exact ⟨a, C', dx, kvs, u, rfl, g2, cl, no, hu, q1 Φ1 H1 u .refl r1 ru⟩
        · exact q1.elim
      · exact q1.elim
    · exact q1.elim⟩

/-! ### o.f = e -/
def putA (f : Str) (v : PV) : List Str → List PV → List Str × List PV
  | g :: fs, x :: xs => if g = f then (g :: fs, v :: xs) else (g :: (putA f v fs xs).1, x :: (putA f v fs xs).2)
  | _, _ => ([f], [v])
theorem putA_ok {G : Gr} {Φ : Fo} {H : Hp} {f : Str} {x : PV} {u : V} (ru : R G Φ H x u) : ∀ {kvs : List (Str × V)} {fs : List Str} {xs : List PV}, kvs.map (·.1) = fs → Rs G Φ H xs (kvs.map (·.2)) →
    (putF f u kvs).map (·.1) = (putA f x fs xs).1 ∧ Rs G Φ H (putA f x fs xs).2 ((putF f u kvs).map (·.2))
  | [], _, xs, e1, e2 => by
    subst e1
    have : xs = [] := by
      cases xs with
      | nil => rfl
      | cons y ys => obtain ⟨v, r, h1, _⟩ := e2; cases h1
    subst this
    exact ⟨rfl, u, [], rfl, ru, rfl⟩
  | (k, y) :: kvs, _, [], e1, e2 => by cases e2
  | (k, y) :: kvs, _, z :: xs, e1, e2 => by
    subst e1
    obtain ⟨v, r, h1, h2, h3⟩ := e2
    have h1' : y = v ∧ kvs.map (·.2) = r := by cases h1; exact ⟨rfl, rfl⟩
    obtain ⟨rfl, rfl⟩ := h1'
    have ih := putA_ok (f := f) ru (kvs := kvs) rfl h3
    show ((if k = f then (k, u) :: kvs else (k, y) :: putF f u kvs).map (·.1) = (if k = f then (k :: kvs.map (·.1), x :: xs) else (k :: (putA f x (kvs.map (·.1)) xs).1, z :: (putA f x (kvs.map (·.1)) xs).2)).1) ∧
      Rs G Φ H (if k = f then (k :: kvs.map (·.1), x :: xs) else (k :: (putA f x (kvs.map (·.1)) xs).1, z :: (putA f x (kvs.map (·.1)) xs).2)).2 ((if k = f then (k, u) :: kvs else (k, y) :: putF f u kvs).map (·.2))
    by_cases hk : k = f
    · rw [if_pos hk, if_pos hk]
      exact ⟨rfl, u, _, rfl, ru, h3⟩
    · rw [if_neg hk, if_neg hk]
      exact ⟨by rw [List.map_cons, ih.1], y, _, rfl, h2, ih.2⟩
def fSetA (c f : Str) (p v : PV) (h : PH) : Option PH := match p with
  | .ref n => match h[n]? with
    | some (.ins c' fs xs) => if c' = c ∧ fs.length < 1000 then some (h.set n (.ins c (putA f v fs xs).1 (putA f v fs xs).2)) else none
    | _ => none
  | _ => none
def mSetA (c f : Str) (o e : EM) : SM := fun ρ h => (e ρ h).st ρ fun v h1 => (o ρ h1).st ρ fun p h2 => match fSetA c f p v h2 with
  | some h3 => .nx ρ h3
  | none => .bad
theorem ms_seta (T : X.mg c = some (.ref C)) (cl : Cls X.K C) (no : NoAttr X.K C f) (ho : PE X o (tmE (gr X) W mo)) (he : PE X e (tmE (gr X) W me)) (hs : swapsWith e (some (.Attribute o f apos)) pos.line X.env = pure false := by rfl) :
    PS X (.Assign [.Attribute o f apos] e pos) (tsm (gr X) W (mSetA c f mo me)) :=
  PS_imp (ps_fld ho he hs) fun D σ H ⟨ρ, h, Φ, r, rs, q⟩ =>
    ⟨ρ, h, Φ, r, rs, okS.st rs q fun v h1 Φ1 H1 y e1 r1 rv q1 => ⟨ρ, h1, Φ1, r1, rs.ext e1, okS.st (rs.ext e1) q1 fun p h2 Φ2 H2 x e2 r2 rp q2 => by
      split at q2
      · rename_i h3 e3
        unfold fSetA at e3
        split at e3
        · rename_i n
          split at e3
          · rename_i c' fs xs ex
            split at e3
            · rename_i hc
              cases e3
              obtain ⟨rfl, hl⟩ := hc
              obtain ⟨a, g1, C', dx, kvs, g2, g3, g4, g5⟩ := r2.ob n _ ex
              obtain ⟨b, k1, rfl⟩ := rp
              rw [g1] at k1; cases k1
              have ec : C' = C := by
                have z := g2.symm.trans T
                cases z
                rfl
              subst ec
              have ew : Ext Φ2 H2 Φ2 (upd H2 a (.ins C' dx (putF f y kvs))) := Ext.wrote g1
              obtain ⟨p1, p2⟩ := putA_ok (f := f) (rv.ext e2) g4 g5
              exact ⟨a, C', dx, kvs, rfl, g3, cl, no, by rw [← g4, List.length_map] at hl; exact hl, q2 Φ2 _ σ ew (r2.wrote g1 ⟨C', dx, _, g2, upd_same, p1, p2.ext ew⟩) (((rs.ext e1).ext e2).ext ew)⟩
            · cases e3
          · cases e3
        · cases e3
      · exact q2.elim⟩⟩
end

/-! ### C(e, ..) -/
section
variable {X : Cx} {CX : CXT} {k : Nat} {f C : Addr} {fd : FuncData} {ps : List Str} {sp : Sp} {E : Sl → XK} {x m : Str} {p pos apos : Pos} {e o : Expr} {es : List Expr} {ta : TE} {t : TA}
theorem run_makeS {pins : List (Addr × Obj)} {σ : Sl} {H : Hp} {s : Shared} {Q : VK} {us : List Value} {vs : List V} (M : Mk X.K C f) (F : FnOk X.prog X.w X.K X.mg X.base CX k f fd ps sp) (hr : Room (k + 1) X.A) (hb : Binds X.K fd ps [])
    (hx : PassesAt CX X σ (E σ)) (I : Inv X pins σ H s) (r : Vals vs us)
    (h : ∀ x dx, H x = none → H dx = none → dx ≠ x → sp (.ref x :: vs) (upd (upd H dx (.own x)) x (.ins C dx [])) (fun v H2 => v = .non ∧ Q (.ref x) H2) (E σ)) :
    wpAny (model X.prog X.w) X.A (call (.ref C) us) (EP X pins σ Q) X.xe s := by
  have hq := h (s.heap.objs.size + 1) s.heap.objs.size (I.hok.fresh (Nat.le_succ _)) (I.hok.fresh (Nat.le_refl _)) (Nat.ne_of_lt (Nat.lt_succ_self _))
  have I2 := Inv.made (C := C) I
  have r2 : Vals (V.ref (s.heap.objs.size + 1) :: vs) (Value.ref (s.heap.objs.size + 1) :: us) := .cons rfl r
  have hl : (Value.ref (s.heap.objs.size + 1) :: us).length = ps.length := by
    have e := r2.length
    rw [F.len _ _ _ _ hq] at e
    exact e.symm
  have b := hb _ (Value.ref (s.heap.objs.size + 1) :: us) I2.kIn (by rw [List.append_nil]; exact hl)
  rw [List.append_nil] at b
  refine wpAny_call (make_map (f := f) I.kIn M.makes M.init (beq_iff_eq.mp M.fn) (codeAny_mono (F.run _ X.stack _ _ ⟨Value.ref (s.heap.objs.size + 1) :: us, []⟩ (Value.ref (s.heap.objs.size + 1) :: us) _ _ (E σ) (hr.make C us [])
    (I2.env0.make C us []) b r2 hq) fun r s' hq' => ?_))
  cases r with
  | error e => exact hx pins _ _ e s' I2 hq'
  | ok fl =>
    cases fl with
    | ret u =>
      obtain ⟨v, H', I3, rv, ev, q3⟩ := I2.after hq'
      subst ev
      exact ⟨rv, ⟨V.ref (s.heap.objs.size + 1), H', I3, rfl, q3⟩⟩
    | next => exact False.elim hq'
    | brk => exact False.elim hq'
    | cont => exact False.elim hq'
def tMakeS (C : Addr) (sp : Sp) (E : Sl → XK) (t : TA) : TE := fun σ H Q => t σ H fun vs H1 => ∀ x dx, H1 x = none → H1 dx = none → dx ≠ x →
  sp (.ref x :: vs) (upd (upd H1 dx (.own x)) x (.ins C dx [])) (fun v H2 => v = .non ∧ Q (.ref x) H2) (E σ)
theorem pe_makeS (M : Mk X.K C f) (F : FnOk X.prog X.w X.K X.mg X.base CX k f fd ps sp) (hr : Room (k + 1) X.A) (hg : Gl X x) (hm : X.mg x = some (.ref C)) (hb : Binds X.K fd ps []) (hx : ∀ σ, PassesAt CX X σ (E σ))
    (ha : PA X (e :: es) t) (hdb : (x == ("__debug__" : Str)) = false := by decide) (he : starEach (e :: es) X.env = (false, eval e X.env) :: starEach es X.env := by rfl) (hpl : (backTo pos (starEach es X.env)).any (·.1) = false := by rfl) :
    PE X (.Call (.Name x p) (e :: es) [] pos) (tMakeS C sp E t) := by
  refine ⟨fun pins s σ H Q I h => ?_⟩
  refine wpAny_Call_Name_kw (ld_glob I hg hm ?_ hdb)
  refine PySem.W.callWith_K (h₀ := X.base) I.ok.mod.kin M.kp (thn (ha.run pos pins s σ H _ I h) fun us s1 ⟨vs, H1, I1, r, q⟩ => ⟨I1.kIn, ?_⟩) he hpl
  exact run_makeS M F hr hb (hx σ) I1 r q
def tMethS (C : Addr) (m : Str) (sp : Sp) (E : Sl → XK) (ta : TE) (t : TA) : TE := fun σ H Q => ta σ H fun x H1 => ∃ a dx fs, x = .ref a ∧ H1 a = some (.ins C dx fs) ∧ fs.lookup m = none ∧ t σ H1 fun vs H2 => sp (x :: vs) H2 Q (E σ)
theorem pe_methS {pl : Sem Bool} (he : PE X o ta) (c : Cls X.K C) (hm : Meth X.K C m f) (F : FnOk X.prog X.w X.K X.mg X.base CX k f fd ps sp) (hr : Room k X.A) (hb : Binds X.K fd ps []) (hx : ∀ σ, PassesAt CX X σ (E σ)) (ha : PA X (e :: es) t)
    (hst : starEach (e :: es) X.env = (false, eval e X.env) :: starEach es X.env := by rfl) (hpl : (backTo pos (starEach es X.env)).any (·.1) = false := by rfl)
    (ht : eval (.Call (.Attribute o m apos) (e :: es) [] pos) X.env = (do
      let ov ← eval o X.env
      standAt apos.atName
      let (f, first) ← holding [ov] (getMethod ov m pl)
      callWith pos f first (backTo pos (starEach (e :: es) X.env)) (backToKw pos (keywordEach [] X.env))) := by rfl) :
    PE X (.Call (.Attribute o m apos) (e :: es) [] pos) (tMethS C m sp E ta t) := by
  refine ⟨fun pins s σ H Q I h => ?_⟩
  refine PySem.W.methodCall_KW (pl := pl) (thn (he.run pins s σ H _ I h) fun u s1 ⟨x, H1, I1, rx, a, dx, fs, ex, ea, l, q⟩ => ?_) ht
  subst ex
  obtain rfl : u = Value.ref a := rx
  refine getmeth_ok I1 ea c hm l ?_
  refine PySem.W.callWith_K (first := [.ref a]) (h₀ := X.base) I.ok.mod.kin hm.kp (thn (ha.run pos pins s1 σ H1 _ I1 q) fun us s2 ⟨vs, H2, I2, r, q2⟩ => ⟨I2.kIn, ?_⟩) hst hpl
  exact run_fnS (us := .ref a :: us) (vs := .ref a :: vs) F hr hb (hx σ) I2 (.cons rfl r) q2
theorem pe_methS0 {pl : Sem Bool} (he : PE X o ta) (c : Cls X.K C) (hm : Meth X.K C m f) (F : FnOk X.prog X.w X.K X.mg X.base CX k f fd ps sp) (hr : Room k X.A) (hb : Binds X.K fd ps []) (hx : ∀ σ, PassesAt CX X σ (E σ))
    (ht : eval (.Call (.Attribute o m apos) [] [] pos) X.env = (do
      let ov ← eval o X.env
      standAt apos.atName
      let (f, first) ← holding [ov] (getMethod ov m pl)
      callWith pos f first (backTo pos (starEach [] X.env)) (backToKw pos (keywordEach [] X.env))) := by rfl) :
    PE X (.Call (.Attribute o m apos) [] [] pos) (tMethS C m sp E ta tNil) := by
  refine ⟨fun pins s σ H Q I h => ?_⟩
  refine PySem.W.methodCall_KW (pl := pl) (thn (he.run pins s σ H _ I h) fun u s1 ⟨x, H1, I1, rx, a, dx, fs, ex, ea, l, q⟩ => ?_) ht
  subst ex
  obtain rfl : u = Value.ref a := rx
  refine getmeth_ok I1 ea c hm l ?_
  refine PySem.W.callWith_K0 (first := [.ref a]) I1.kIn hm.kp ?_
  exact run_fnS (us := [.ref a]) (vs := [.ref a]) F hr hb (hx σ) I1 (.cons rfl .nil) q
end
def mNewC (c : Str) (g : DF) (as : AM) : EM := fun ρ h => (as ρ h).bind fun ps h1 => (g (.ref h1.length :: ps) (h1 ++ [.ins c [] []])).bind fun v h2 => match v with
  | .non => .ok (.ref h1.length) h2
  | _ => .bad
def mMeth (c m : Str) (g : DF) (o : EM) (as : AM) : EM := fun ρ h => (o ρ h).bind fun p h1 => match fldsOf h1 p with
  | some (c', fs, _) => if c' = c ∧ m ∉ fs then (as ρ h1).bind fun ps h2 => g (p :: ps) h2 else .bad
  | none => .bad
section
variable {X : Cx} {W : WX} {k : Nat} {f C : Addr} {fd : FuncData} {ps : List Str} {gd : DF} {c m : Str} {p pos apos : Pos} {e o : Expr} {es : List Expr} {mo : EM} {mr : AM}
/-- a new instance, ours to change -/
theorem newI_ok {G : Gr} {Φ : Fo} {H : Hp} {h : PH} {x dx : Addr} (r : Hr G Φ H h) (gC : G.mg c = some (.ref C)) (nx : H x = none) (nd : H dx = none) (ne : dx ≠ x) :
    Ext Φ H (Φ.add x) (upd (upd H dx (.own x)) x (.ins C dx [])) ∧ Hr G (Φ.add x) (upd (upd H dx (.own x)) x (.ins C dx [])) (h ++ [.ins c [] []]) ∧ R G (Φ.add x) (upd (upd H dx (.own x)) x (.ins C dx [])) (.ref h.length) (.ref x) := by
  have e1 : Ext Φ H Φ (upd H dx (.own x)) := Ext.laid r nd
  have r1 : Hr G Φ (upd H dx (.own x)) h := r.laid nd
  have nx1 : (upd H dx (.own x)) x = none := by rw [upd_ne ne.symm]; exact nx
  exact ⟨e1.trans (Ext.added r1 nx1), r1.added nx1 ⟨C, dx, [], gC, upd_same, rfl, rfl⟩, x, by simp [Fo.add, ← r.len], rfl⟩
theorem me_new (M : Mk X.K C f) (F : FnM X.prog X.w X.K X.mg X.base k f fd ps gd) (hn : ∀ qs h, gd qs h ≠ .bad → qs.length = ps.length) (hr : Room (k + 1) X.A) (hm : X.mg c = some (.ref C)) (hb : Binds X.K fd ps []) (tk : Takes X W)
    (ha : PA X (e :: es) (tmA (gr X) W mr)) (hg : Gl X c := by rfl) (hdb : (c == ("__debug__" : Str)) = false := by decide) (he : starEach (e :: es) X.env = (false, eval e X.env) :: starEach es X.env := by rfl) (hpl : (backTo pos (starEach es X.env)).any (·.1) = false := by rfl) :
    PE X (.Call (.Name c p) (e :: es) [] pos) (tmE (gr X) W (mNewC c gd mr)) :=
  PE_imp (pe_makeS M F hr hg hm hb (fun σ => passAt tk σ) ha hdb he hpl) fun σ H Q ⟨ρ, h, Φ, r, rs, q⟩ => ⟨ρ, h, Φ, r, rs, okO.bind q fun qs h1 Φ1 H1 vs e1 r1 rp q1 => fun x dx nx nd ne => by
    obtain ⟨e2, r2, rx⟩ := newI_ok (c := c) (C := C) r1 hm nx nd ne
    have q2 := okO.start e2 q1
    have hne : gd (.ref h1.length :: qs) (h1 ++ [.ins c [] []]) ≠ .bad := fun z => by rw [z] at q1; exact q1
    refine ⟨?_, .ref h1.length :: qs, _, _, r2, ⟨_, _, rfl, rx, rp.ext e2⟩, ?_⟩
    · have := hn _ _ hne
      rw [List.length_cons, ← rp.length]
      rw [List.length_cons] at this
      exact this
    · cases z : gd (.ref h1.length :: qs) (h1 ++ [.ins c [] []]) with
      | ok v h2 =>
        rw [z] at q2
        refine fun Φ' H' u e' r' rv => ?_
        cases v with
        | non =>
          have rv' : u = .non := rv
          exact ⟨rv', q2 Φ' H' (.ref x) e' r' (rx.ext e')⟩
        | _ => exact q2.elim
      | ex cc fs xs h2 =>
        rw [z] at q2
        exact q2
      | bad => exact (hne z).elim⟩
theorem look_no {fs : List (Str × V)} {m : Str} (h : m ∉ fs.map (·.1)) : fs.lookup m = none := by
  induction fs with
  | nil => rfl
  | cons a fs ih =>
    obtain ⟨k, v⟩ := a
    rw [List.map_cons, List.mem_cons, not_or] at h
    rw [List.lookup_cons, show (m == k) = false from beq_eq_false_iff_ne.mpr h.1]
    exact ih h.2
theorem me_meth (g : X.mg c = some (.ref C)) (cl : Cls X.K C) (M : Meth X.K C m f) (F : FnM X.prog X.w X.K X.mg X.base k f fd ps gd) (hn : ∀ qs h, gd qs h ≠ .bad → qs.length = ps.length) (hr : Room k X.A) (hb : Binds X.K fd ps []) (tk : Takes X W)
    (ho : PE X o (tmE (gr X) W mo)) (ha : PA X (e :: es) (tmA (gr X) W mr)) {pl : Sem Bool} (hst : starEach (e :: es) X.env = (false, eval e X.env) :: starEach es X.env := by rfl) (hpl : (backTo pos (starEach es X.env)).any (·.1) = false := by rfl)
    (ht : eval (.Call (.Attribute o m apos) (e :: es) [] pos) X.env = (do
      let ov ← eval o X.env
      standAt apos.atName
      let (f, first) ← holding [ov] (getMethod ov m pl)
      callWith pos f first (backTo pos (starEach (e :: es) X.env)) (backToKw pos (keywordEach [] X.env))) := by rfl) :
    PE X (.Call (.Attribute o m apos) (e :: es) [] pos) (tmE (gr X) W (mMeth c m gd mo mr)) :=
  PE_imp (pe_methS (pl := pl) ho cl M F hr hb (fun σ => passAt tk σ) ha hst hpl ht) fun σ H Q ⟨ρ, h, Φ, r, rs, q⟩ => ⟨ρ, h, Φ, r, rs, okO.bind q fun p h1 Φ1 H1 x e1 r1 rp q1 => by
    split at q1
    · rename_i c' fs xs ef
      split at q1
      · rename_i hc
        obtain ⟨rfl, hno⟩ := hc
        obtain ⟨a, C', dx, kvs, rfl, g1, g2, g3, g4⟩ := fldsOf_ok r1 rp ef
        have ec : C' = C := by
          have z := g1.symm.trans g
          cases z
          rfl
        subst ec
        refine ⟨a, dx, kvs, rfl, g2, look_no (by rw [g3]; exact hno), ρ, h1, Φ1, r1, rs.ext e1, okO.bind q1 fun qs h2 Φ2 H2 vs e2 r2 rq q2 => ?_⟩
        have hne : gd (p :: qs) h2 ≠ .bad := fun z => by rw [z] at q2; exact q2
        refine ⟨?_, p :: qs, h2, Φ2, r2, ⟨_, _, rfl, rp.ext e2, rq⟩, q2.slots⟩
        have := hn _ _ hne
        rw [List.length_cons, ← rq.length]
        rw [List.length_cons] at this
        exact this
      · exact q1.elim
    · exact q1.elim⟩
theorem me_meth0 (g : X.mg c = some (.ref C)) (cl : Cls X.K C) (M : Meth X.K C m f) (F : FnM X.prog X.w X.K X.mg X.base k f fd ps gd) (hn : ∀ qs h, gd qs h ≠ .bad → qs.length = ps.length) (hr : Room k X.A) (hb : Binds X.K fd ps []) (tk : Takes X W)
    (ho : PE X o (tmE (gr X) W mo)) {pl : Sem Bool}
    (ht : eval (.Call (.Attribute o m apos) [] [] pos) X.env = (do
      let ov ← eval o X.env
      standAt apos.atName
      let (f, first) ← holding [ov] (getMethod ov m pl)
      callWith pos f first (backTo pos (starEach [] X.env)) (backToKw pos (keywordEach [] X.env))) := by rfl) :
    PE X (.Call (.Attribute o m apos) [] [] pos) (tmE (gr X) W (mMeth c m gd mo mNil)) :=
  PE_imp (pe_methS0 (pl := pl) ho cl M F hr hb (fun σ => passAt tk σ) ht) fun σ H Q ⟨ρ, h, Φ, r, rs, q⟩ => ⟨ρ, h, Φ, r, rs, okO.bind q fun p h1 Φ1 H1 x e1 r1 rp q1 => by
    split at q1
    · rename_i c' fs xs ef
      split at q1
      · rename_i hc
        obtain ⟨rfl, hno⟩ := hc
        obtain ⟨a, C', dx, kvs, rfl, g1, g2, g3, g4⟩ := fldsOf_ok r1 rp ef
        have ec : C' = C := by
          have z := g1.symm.trans g
          cases z
          rfl
        subst ec
        refine ⟨a, dx, kvs, rfl, g2, look_no (by rw [g3]; exact hno), ?_⟩
        have q1' : okO (R (gr X)) (gr X) W Q σ Φ1 H1 (gd [p] h1) := q1
        have hne : gd [p] h1 ≠ .bad := fun z => by rw [z] at q1'; exact q1'
        exact ⟨(hn _ _ hne).symm ▸ rfl, [p], h1, Φ1, r1, ⟨_, _, rfl, rp, rfl⟩, q1'.slots⟩
      · exact q1.elim
    · exact q1.elim⟩
end
end Ev
/-! Ev15: enumerate over a tuple. -/
namespace Ev
open PySem PySem.Spec PyProof.Rows L2
set_option maxHeartbeats 1000000 in
theorem meets_enum1 {v : Value} {o : Obj} {H : Heap → Prop} (B : Begins v o H) :
    Meets (Builtin.«enumerate.__new__» ⟨[.type "enumerate", v], []⟩) (fun _ R s => H s.heap ∧
      R (.ok (.ret (.ref (s.heap.push o).objs.size))) { s with heap := (s.heap.push o).push { cls := .type "enumerate", data := .fields #[.none, .bool false, .ref s.heap.objs.size, rawInt 0, .none, .none] } }) :=
  .of_wp fun prog w A R s h => by
    obtain ⟨hp, g, d, tk, os⟩ := s; obtain ⟨h1, h⟩ := h
    have hsub := sub_enumerate
    have q1 : ∀ {A' : Around} {E : Value → Shared → Prop} {Q : Value → Shared → Prop}, Q (.ref hp.objs.size) ⟨hp.push o, g, d, tk, os⟩ → wpAny (model prog w) A' (pyIter v) Q E ⟨hp, g, d, tk, os⟩ :=
      fun q => B.iter prog w _ _ ⟨hp, g, d, tk, os⟩ _ h1 q
    wp_walk using q1
    refine wpAny_stack_any fun st => wpAny_pure ?_
    split
    · rename_i c _ _ _ _ _
      cases (c == Value.type "enumerate")
      · wp_walk using q1
        exact ⟨_, rfl, h⟩
      · wp_walk using q1
        exact ⟨_, rfl, h⟩
    · wp_walk using q1
      exact ⟨_, rfl, h⟩
section
variable {prog : Program} {w : World} {A : Around} {E : Value → Shared → Prop} {s : Shared}
theorem call_enum1 {v : Value} {o : Obj} {H : Heap → Prop} {Q : Value → Shared → Prop} (B : Begins v o H) (h1 : H s.heap)
    (h : ∀ h', IsEnum h' (s.heap.objs.size + 1) s.heap.objs.size 0 .none → h'.get? s.heap.objs.size = some o → h'.objs.size = s.heap.objs.size + 2 →
      (∀ b o, s.heap.get? b = some o → h'.get? b = some o) → Q (.ref (s.heap.objs.size + 1)) { s with heap := h' }) :
    wpAny (model prog w) A (call (.type "enumerate") [v]) Q E s := by
  refine callType_new F.called_enumerate (by decide) (F.typeCall_enumerate_1 _) (F.newCall_enumerate_1 _) (fun obj => F.args_object_init_2 obj _) F.entry_enumerate_new
    (meets_enum1 B) ⟨h1, ?_⟩
  have hz : (s.heap.push o).objs.size = s.heap.objs.size + 1 := Heap.size_push ..
  show _ ∧ _
  rw [hz]
  have he : IsEnum ((s.heap.push o).push { cls := .type "enumerate", data := .fields #[.none, .bool false, .ref s.heap.objs.size, rawInt 0, .none, .none] }) (s.heap.objs.size + 1) s.heap.objs.size 0 .none := by
    have := Heap.get?_push_size (s.heap.push o) (o := { cls := .type "enumerate", data := .fields #[.none, .bool false, .ref s.heap.objs.size, rawInt 0, .none, .none] }) rfl
    rw [hz] at this; exact this
  refine ⟨⟨_, he, rfl⟩, h _ he (Heap.get?_push_of_some _ (Heap.get?_push_size _ B.free)) (by rw [Heap.size_push, hz]) fun b o x => Heap.get?_push_of_some _ (Heap.get?_push_of_some _ x)⟩
end
/-- the tuple at a, each item in a new pair -/
def IteT (K : PySem.W.Frag) (a : Addr) : It :=
  ⟨fun i H => ∃ (xs : List V) (x : V), SqT K H a xs ∧ xs[i]? = some x, fun i H v H' => ∃ T x, v = .ref T ∧ H T = none ∧ H' = upd H T (.tup [.int (i : Nat), x]) ∧ ∀ xs, SqT K H a xs → xs[i]? = some x, fun i H => ∃ xs : List V, SqT K H a xs ∧ xs.length ≤ i⟩
theorem turn_enumT {P : Program} {w : World} {K : PySem.W.Frag} {elts : List Expr} {kk : Nat} {tpos : Pos} (a e it : Addr) :
    Turn P w K (.Tuple elts kk tpos) (IteT K a) [e, it] e (fun i h => (∃ old, IsEnum h e it ((i : Nat) : Int) old) ∧ h.IsTupleIter it a i ∧ e ≠ it) where
  mem := by simp
  obj := fun i h st b hb => by
    obtain ⟨⟨old, he⟩, ⟨o, ho, hc, hd⟩, _⟩ := st
    have e' : b = e ∨ b = it := by simpa using hb
    rcases e' with z | z
    · rw [z]; exact ⟨_, he, fun v q => nomatch q⟩
    · rw [z]; exact ⟨o, ho, fun v q => by rw [hd] at q; cases q⟩
  keep := fun i h h' st k => let ⟨⟨old, he⟩, hi, hne⟩ := st; ⟨⟨old, k e (by simp) _ he⟩, hi.at fun o q => k it (by simp) o q, hne⟩
  item := by
    intro X hP hw hK hc i pins s σ H E I hf st hg
    subst hP hw hK
    obtain ⟨⟨old, he⟩, hit, hne⟩ := st
    obtain ⟨xs, x, hq, hx⟩ := hg
    obtain ⟨its, rv, p, hz⟩ := I.tuple hq
    obtain ⟨u, hu, ru⟩ := rv.get hx
    have p' : s.heap.IsTuple a its.toArray := p
    have hel : e < s.heap.objs.size := Heap.lt_size he
    have hil : it < s.heap.objs.size := by obtain ⟨_, q, _⟩ := hit; exact Heap.lt_size q
    have nai : a ≠ it := fun z => by
      obtain ⟨o, ho, hcl, _⟩ := id p'
      obtain ⟨o2, ho2, hcl2, _⟩ := id hit
      subst z
      rw [ho] at ho2
      cases ho2
      rw [hcl] at hcl2
      exact absurd hcl2 (by decide)
    have nae : a ≠ e := fun z => by
      obtain ⟨o, ho, hcl, _⟩ := id p'
      subst z
      rw [show s.heap.get? a = some _ from he] at ho
      cases ho
      exact absurd (show Value.type "enumerate" = .type "tuple" from hcl) (by decide)
    have D : Draws X.prog X.w X.A.in1 it [it, a] its.toArray.size (fun i v => its.toArray[i]? = some v) (fun i h => h.IsTupleIter it a i ∧ h.IsTuple a its.toArray) := Draws.tuple (A := X.A.in1) (I.ok.hd hc) it a nai its.toArray
    have hlt : i < its.toArray.size := by
      have := (List.getElem?_eq_some_iff.mp hu).1
      simpa using this
    have hef : e ∉ [it, a] := by
      simp
      exact ⟨hne, fun z => nae z.symm⟩
    refine wpAny_pyNext_enum_itemD D he ⟨hit, p'⟩ hlt hne hef fun x' h' tk hP ho hs' hT hsz hk => ?_
    have exu : x' = u := by
      have : its[i]? = some x' := by simpa using hP
      rw [hu] at this
      exact (Option.some.inj this).symm
    subst exu
    refine ⟨_, rfl, wpAny_letOwnedTupleGo_enum (s := { s with heap := h', toks := tk + 1 }) ho fun h'' he' sb => ?_⟩
    have hT2 : h''.get? s.heap.objs.size = some { cls := .type "tuple", data := .seq #[.int i tk, x'] } := (sb.2 _ (Nat.ne_of_gt hel)).trans hT
    have new : ObjOk X.prog X.w (upd H s.heap.objs.size (.tup [.int (i : Nat), x])) h'' s.heap.objs.size (.tup [.int (i : Nat), x]) :=
      ⟨by show 2 ≤ sizeLine; decide, [.int i tk, x'], .cons ⟨_, rfl⟩ (.cons ru .nil), ⟨_, hT2, rfl, _, rfl⟩⟩
    have I1 : Inv X pins σ (upd H s.heap.objs.size (.tup [.int (i : Nat), x])) { s with heap := h'', toks := tk + 1 } :=
      I.turnedNew (ch := [e, it]) (fun b ob hb q => (sb.2 b (fun z => hb (by simp [z]))).trans (hk b ob (fun z => hb (by simp [z])) (fun z => hb (by simp [z])) q)) hf (Nat.le_refl _) new
    refine ⟨.ref s.heap.objs.size, _, I1, rfl, ⟨_, x, rfl, I.hok.fresh (Nat.le_refl _), rfl, fun ys hy => by rw [I.tuple_inj hy hq]; exact hx⟩, ⟨⟨x', ?_⟩, hs'.1.at fun o q => (sb.2 it (Ne.symm hne)).trans q, hne⟩, fun b hb => ?_⟩
    · have e1 : ((i + 1 : Nat) : Int) = (i : Int) + 1 := by omega
      rw [e1]; exact he'
    · have hb' : b < s.heap.objs.size := by
        have e' : b = e ∨ b = it := by simpa using hb
        rcases e' with z | z
        · rw [z]; exact hel
        · rw [z]; exact hil
      rw [upd_ne (Nat.ne_of_lt hb')]
      exact (hf b hb).1
  done := by
    intro X hP hw hK hc i pins s σ H E I hf st hg
    subst hP hw hK
    obtain ⟨⟨old, he⟩, hit, hne⟩ := st
    obtain ⟨xs, hq, hx⟩ := hg
    obtain ⟨its, rv, p, hz⟩ := I.tuple hq
    have p' : s.heap.IsTuple a its.toArray := p
    obtain ⟨f0, f1, f2, f3, f4, f5⟩ := hf it (by simp)
    have hl := rv.length
    have hT : s.TypeIs (.ref e) "enumerate" := ⟨_, he, rfl⟩
    unfold pyNext
    refine wpAny_bind (wpAny_attempt (wpAny_callSpecial?_slot (name := Str.ofString "__next__") hT F.slot_enumerate_next
      (wpAny_call_entry F.slot_enumerate_next hT F.entry_enumerate_next ?_ (F.args_enumerate_next_1 _))))
    show wpAny _ _ (field (.ref e) 2 >>= _) _ _ _
    refine wpAny_bind (wpAny_field he rfl (x := .ref it) rfl ?_)
    refine wpAny_bind (wpAny_nextOf_tuple_end (I.ok.hd hc) hit p' (by simp; omega) fun h' x he' hx' => ?_)
    obtain ⟨o, ho, hc'⟩ := hx'
    refine wpAny_bind (wpAny_isInstance (T := "StopIteration") (b := true) ⟨o, ho, hc'⟩ isSubtype_stop ?_)
    exact wpAny_pure ⟨rfl, I.turned (t' := s.toks) (fun b o hb q => he' b o hb q) f0 f1 f3 f4 f5⟩
  self := fun A i s Q E st h => let ⟨⟨_, he⟩, _⟩ := st; wpAny_pyIter_enum he h
def iEnum2 (K : PySem.W.Frag) (ta : TA) : TI := fun σ H R => ta σ H fun vs H1 => ∃ a xs, vs = [.ref a] ∧ (SqL K H1 a xs ∧ R (Ite K a) H1 ∨ SqT K H1 a xs ∧ R (IteT K a) H1)
theorem pi_enum2 {X : Cx} {e : Expr} {ta : TA} {p pos tpos : Pos} {elts : List Expr} {kk : Nat} (hg : Gl X "enumerate") (hm : X.mg "enumerate" = none) (ha : PA X [e] ta) (hs : starEach [e] X.env = [(false, eval e X.env)] := by rfl) :
    PI X (.Tuple elts kk tpos) (.Call (.Name "enumerate" p) [e] [] pos) (iEnum2 X.K ta) := by
  refine ⟨fun pins s σ H R I h => ?_⟩
  refine Call_ (ld_blt I hg hm boot_enumerate (PyProof.Rows.callWith_type1 (thn (ha.run pos pins s σ H _ I h) fun us s1 ⟨vs, H1, I1, r1, q1⟩ => ?_) hs rfl))
  obtain ⟨a, xs, ex, q⟩ := q1
  subst ex
  cases r1 with
  | cons r rr =>
    cases rr
    cases r
    have sz : ∀ b, b = s1.heap.objs.size + 1 ∨ b = s1.heap.objs.size → s1.heap.objs.size ≤ b := fun b hb => by
      rcases hb with z | z
      · rw [z]; exact Nat.le_add_right _ _
      · rw [z]; exact Nat.le_refl _
    rcases q with ⟨hq, q⟩ | ⟨hq, q⟩
    · obtain ⟨its, rv, p', hz⟩ := I1.list hq
      refine call_enumerate_list p'.isList fun h' he hit hsz hk => wpAny_pyIter_enum he ?_
      have I2 : Inv X pins σ H1 { s1 with heap := h' } := I1.kept (t' := s1.toks) hk
      exact ⟨s1.heap.objs.size + 1, [s1.heap.objs.size + 1, s1.heap.objs.size], _, _, H1, rfl, I2, turn_enum a (s1.heap.objs.size + 1) s1.heap.objs.size, ⟨⟨.none, he⟩, hit, Nat.succ_ne_self _⟩, fun b hb => I1.fpOk (sz b (by simpa using hb)) (I1.hok.fresh (sz b (by simpa using hb))), q⟩
    · obtain ⟨its, rv, p', hz⟩ := I1.tuple hq
      refine call_enum1 (begins_tuple a its.toArray) p' fun h' he hit hsz hk => wpAny_pyIter_enum he ?_
      have I2 : Inv X pins σ H1 { s1 with heap := h' } := I1.kept (t' := s1.toks) hk
      exact ⟨s1.heap.objs.size + 1, [s1.heap.objs.size + 1, s1.heap.objs.size], _, _, H1, rfl, I2, turn_enumT a (s1.heap.objs.size + 1) s1.heap.objs.size, ⟨⟨.none, he⟩, ⟨_, hit, rfl, rfl⟩, Nat.succ_ne_self _⟩, fun b hb => I1.fpOk (sz b (by simpa using hb)) (I1.hok.fresh (sz b (by simpa using hb))), q⟩
noncomputable def itEnum2 : List PV → PH → Out Its
  | [p], h => match asL h p with
    | some _ => (itSeq p h).bind fun s h1 => .ok ⟨enumFrom 0 s.items, s.chk⟩ h1
    | none => match p with
      | .tup xs => .ok ⟨enumFrom 0 xs, fun _ => true⟩ h
      | _ => .bad
  | _, _ => .bad
section
variable {X : Cx} {W : WX} {a : Expr} {mr : AM} {p pos : Pos}
theorem mi_enum2 {elts : List Expr} {kk : Nat} {tpos : Pos} (hm : X.mg "enumerate" = none) (ha : PA X [a] (tmA (gr X) W mr)) (hg : Gl X "enumerate" := by rfl) (hs : starEach [a] X.env = [(false, eval a X.env)] := by rfl) :
    PI X (.Tuple elts kk tpos) (.Call (.Name "enumerate" p) [a] [] pos) (tmI (gr X) W (mItA itEnum2 mr)) :=
  PI_imp (pi_enum2 hg hm ha hs) fun σ H R ⟨ρ, h, Φ, r, rs, q⟩ => ⟨ρ, h, Φ, r, rs, okO.bind q fun ps h1 Φ1 H1 xs e1 r1 rp q1 => by
    unfold itEnum2 at q1
    split at q1
    · rename_i p
      obtain ⟨v, rfl, rv⟩ := rp.one
      split at q1
      · rename_i ys ey
        obtain ⟨a, vs, s, rfl, h2, h3, h4, h5⟩ := itSeq_list r1 rv ey
        rw [h3] at q1
        refine ⟨a, vs, rfl, .inl ⟨h2, q1 Φ1 H1 _ .refl r1 fun Φ' H' h' e r c i => ?_⟩⟩
        obtain ⟨us, g1, g2⟩ := h5 Φ' H' h' e r c
        refine ⟨fun w hw => ?_, fun hi => ⟨us, g1, ?_⟩⟩
        · obtain ⟨z, k1, k2⟩ := enum_get hw
          obtain ⟨u, k3, k4⟩ := g2.get k1
          refine ⟨⟨us, u, g1, k3⟩, fun x H'' y => ?_⟩
          obtain ⟨T, u', rfl, nT, rfl, k5⟩ := y
          have k6 := k5 us g1
          rw [k3] at k6
          cases k6
          obtain ⟨a1, a2, a3⟩ := newT_ok r (xs := [.int (i : Nat), z]) (vs := [.int (i : Nat), u]) ⟨_, _, rfl, rfl, _, _, rfl, k4, rfl⟩ nT
          rw [Nat.zero_add] at k2
          rw [k2]
          exact ⟨Φ', a1, a2, a3⟩
        · have hi' : (enumFrom 0 s.items).length ≤ i := hi
          rw [enum_len, g2.length] at hi'
          exact hi'
      · split at q1
        · rename_i ys _
          obtain ⟨a, vs, rfl, h2, h3⟩ := asT_ok rv (xs := ys) rfl
          refine ⟨a, vs, rfl, .inr ⟨h2, q1 Φ1 H1 _ .refl r1 fun Φ' H' h' e r c i => ?_⟩⟩
          obtain ⟨b, us, g0, g1, g2⟩ := asT_ok (rv.ext e) (xs := ys) rfl
          cases g0
          refine ⟨fun w hw => ?_, fun hi => ⟨us, g1, ?_⟩⟩
          · obtain ⟨z, k1, k2⟩ := enum_get hw
            obtain ⟨u, k3, k4⟩ := g2.get k1
            refine ⟨⟨us, u, g1, k3⟩, fun x H'' y => ?_⟩
            obtain ⟨T, u', rfl, nT, rfl, k5⟩ := y
            have k6 := k5 us g1
            rw [k3] at k6
            cases k6
            obtain ⟨a1, a2, a3⟩ := newT_ok r (xs := [.int (i : Nat), z]) (vs := [.int (i : Nat), u]) ⟨_, _, rfl, rfl, _, _, rfl, k4, rfl⟩ nT
            rw [Nat.zero_add] at k2
            rw [k2]
            exact ⟨Φ', a1, a2, a3⟩
          · have hi' : (enumFrom 0 ys).length ≤ i := hi
            rw [enum_len, g2.length] at hi'
            exact hi'
        · exact q1.elim
    · exact q1.elim⟩
end
end Ev
/-! Ev16: max, min; a tuple times a number; in a list of data; != by an own __eq__. -/
namespace Ev
open PySem PySem.Spec PyProof.Rows L2
/-! ### max, min -/
section
variable {prog : Program} {w : World} {A : Around} {E : Value → Shared → Prop} {s : Shared} {l : Addr} {its : List Value} {ns : List Int} {Q : Value → Shared → Prop}
theorem iter_tupI {xs : Array Value} {Q : Value → Shared → Prop} (hl : s.heap.IsTuple l xs)
    (h : ∀ s₂ : Shared, s₂ = { s with heap := s.heap.push { cls := .type "tuple_iterator", data := .fields #[.ref l, .int 0 0] } } →
      (s₂.heap.IsTupleIter s.heap.objs.size l 0 ∧ s₂.heap.IsTuple l xs) → (∀ b ∈ [s.heap.objs.size, l], b < s₂.heap.objs.size) → l ≠ s.heap.objs.size → Q (.ref s.heap.objs.size) s₂) :
    wpAny (model prog w) A (pyIter (.ref l)) Q E s := by
  have hlt : l < s.heap.objs.size := by obtain ⟨_, e, _⟩ := hl; exact Heap.lt_size e
  refine wpAny_pyIter_tuple hl (h _ rfl ⟨⟨_, Heap.get?_push_size _ rfl, rfl, rfl⟩, hl.push _⟩ (fun b hb => ?_) (Nat.ne_of_lt hlt))
  show b < (s.heap.push _).objs.size
  rw [Heap.size_push]
  rcases List.mem_cons.mp hb with rfl | hb
  · exact Nat.lt_succ_self _
  · rcases List.mem_cons.mp hb with rfl | hb
    · exact Nat.lt_succ_of_lt hlt
    · cases hb
theorem old_tup {h' : Heap} (hk : ∀ b o, b ∉ [s.heap.objs.size] → (s.heap.push { cls := .type "tuple_iterator", data := .fields #[.ref l, .int 0 0] }).get? b = some o → h'.get? b = some o) :
    ∀ b o, s.heap.get? b = some o → h'.get? b = some o := fun b o e => by
  refine hk b o (fun hm => ?_) (Heap.get?_push_of_some _ e)
  rcases List.mem_cons.mp hm with e1 | hm
  · exact absurd (e1 ▸ Heap.lt_size e) (Nat.lt_irrefl _)
  · cases hm
theorem max_tup (hh : A.handled = none) (hl : s.heap.IsTuple l its.toArray) (hi : IntsAre its ns) (hne : 0 < ns.length)
    (h : ∀ h' tk M t', (∀ b o, s.heap.get? b = some o → h'.get? b = some o) → M ∈ ns → (∀ a, a ∈ ns → a ≤ M) → Q (.int M t') { s with heap := h', toks := tk }) : wpAny (model prog w) A (call (.builtin "max") [.ref l]) Q E s := by
  obtain ⟨xs, e⟩ := hi.allInts.items
  have hn : numsOf (intItems xs).toList = ns := by rw [← e]; exact hi.numsOf
  rw [nums_intItems] at hn
  subst hn
  rw [e] at hl
  have hsz : 0 < xs.size := by simpa using hne
  refine call_max_walk (iter_tupI hl fun s₂ e st hfp hlI => ?_)
  subst e
  refine ⟨_, _, _, _, _, _, _, rfl, Walks.tuple (A := A.in1) hh _ l hlI (intItems xs), st, hfp, by simpa [intItems] using hsz, CmpOf.ints_gt (numAt xs) (fun _ _ => intItems_at), fun v h' tk hv hk => ?_⟩
  obtain ⟨t, rfl⟩ := intItems_at hv
  have hs2 : (intItems xs).size - 1 = xs.size - 1 := by simp [intItems]
  obtain ⟨h1, h2⟩ := argBest_gt (numAt xs) (xs.size - 1)
  rw [hs2]
  refine h h' tk _ t (old_tup hk) ?_ fun a ha => ?_
  · rw [numAt_eq]; exact PySem.getD_mem (by rw [List.length_map, Array.length_toList]; omega)
  · obtain ⟨j, hj, rfl⟩ := mem_getD ha
    rw [List.length_map, Array.length_toList] at hj
    rw [← numAt_eq]; exact h2 j (by omega)
theorem min_tup (hh : A.handled = none) (hl : s.heap.IsTuple l its.toArray) (hi : IntsAre its ns) (hne : 0 < ns.length)
    (h : ∀ h' tk M t', (∀ b o, s.heap.get? b = some o → h'.get? b = some o) → M ∈ ns → (∀ a, a ∈ ns → M ≤ a) → Q (.int M t') { s with heap := h', toks := tk }) : wpAny (model prog w) A (call (.builtin "min") [.ref l]) Q E s := by
  obtain ⟨xs, e⟩ := hi.allInts.items
  have hn : numsOf (intItems xs).toList = ns := by rw [← e]; exact hi.numsOf
  rw [nums_intItems] at hn
  subst hn
  rw [e] at hl
  have hsz : 0 < xs.size := by simpa using hne
  refine call_min_walk (iter_tupI hl fun s₂ e st hfp hlI => ?_)
  subst e
  refine ⟨_, _, _, _, _, _, _, rfl, Walks.tuple (A := A.in1) hh _ l hlI (intItems xs), st, hfp, by simpa [intItems] using hsz, CmpOf.ints_lt (numAt xs) (fun _ _ => intItems_at), fun v h' tk hv hk => ?_⟩
  obtain ⟨t, rfl⟩ := intItems_at hv
  have hs2 : (intItems xs).size - 1 = xs.size - 1 := by simp [intItems]
  obtain ⟨h1, h2⟩ := argBest_lt (numAt xs) (xs.size - 1)
  rw [hs2]
  refine h h' tk _ t (old_tup hk) ?_ fun a ha => ?_
  · rw [numAt_eq]; exact PySem.getD_mem (by rw [List.length_map, Array.length_toList]; omega)
  · obtain ⟨j, hj, rfl⟩ := mem_getD ha
    rw [List.length_map, Array.length_toList] at hj
    rw [← numAt_eq]; exact h2 j (by omega)
end
def maxI : List Int → Int
  | [] => 0
  | [a] => a
  | a :: r => if a < maxI r then maxI r else a
def minI : List Int → Int
  | [] => 0
  | [a] => a
  | a :: r => if minI r < a then minI r else a
theorem maxI_cons (a b : Int) (r : List Int) : maxI (a :: b :: r) = if a < maxI (b :: r) then maxI (b :: r) else a := rfl
theorem minI_cons (a b : Int) (r : List Int) : minI (a :: b :: r) = if minI (b :: r) < a then minI (b :: r) else a := rfl
theorem maxI_spec : ∀ (l : List Int), l ≠ [] → maxI l ∈ l ∧ ∀ a ∈ l, a ≤ maxI l
  | [], h => absurd rfl h
  | [a], _ => ⟨by simp [maxI], fun b hb => by rw [List.mem_singleton.mp hb]; exact Int.le_refl _⟩
  | a :: b :: r, _ => by
    obtain ⟨i1, i2⟩ := maxI_spec (b :: r) (by simp)
    rw [maxI_cons]
    split
    · rename_i h
      exact ⟨List.mem_cons_of_mem _ i1, fun c hc => by
        rcases List.mem_cons.mp hc with rfl | hc
        · omega
        · exact i2 c hc⟩
    · rename_i h
      exact ⟨List.mem_cons_self, fun c hc => by
        rcases List.mem_cons.mp hc with rfl | hc
        · omega
        · have := i2 c hc; omega⟩
theorem minI_spec : ∀ (l : List Int), l ≠ [] → minI l ∈ l ∧ ∀ a ∈ l, minI l ≤ a
  | [], h => absurd rfl h
  | [a], _ => ⟨by simp [minI], fun b hb => by rw [List.mem_singleton.mp hb]; exact Int.le_refl _⟩
  | a :: b :: r, _ => by
    obtain ⟨i1, i2⟩ := minI_spec (b :: r) (by simp)
    rw [minI_cons]
    split
    · rename_i h
      exact ⟨List.mem_cons_of_mem _ i1, fun c hc => by
        rcases List.mem_cons.mp hc with rfl | hc
        · omega
        · exact i2 c hc⟩
    · rename_i h
      exact ⟨List.mem_cons_self, fun c hc => by
        rcases List.mem_cons.mp hc with rfl | hc
        · omega
        · have := i2 c hc; omega⟩
theorem maxI_eq {l : List Int} {m : Int} (h1 : m ∈ l) (h2 : ∀ a ∈ l, a ≤ m) : m = maxI l := by
  obtain ⟨i1, i2⟩ := maxI_spec l (List.ne_nil_of_mem h1)
  exact Int.le_antisymm (i2 m h1) (h2 _ i1)
theorem minI_eq {l : List Int} {m : Int} (h1 : m ∈ l) (h2 : ∀ a ∈ l, m ≤ a) : m = minI l := by
  obtain ⟨i1, i2⟩ := minI_spec l (List.ne_nil_of_mem h1)
  exact Int.le_antisymm (h2 _ i1) (i2 m h1)
def fMax : CF := fun ps h => match ps with
  | [p] => match (asQ h p).bind asIs with
    | some ns => if ns = [] then none else some (.int (maxI ns), h)
    | none => none
  | [.int i, .int j] => some (.int (if i < j then j else i), h)
  | _ => none
def fMin : CF := fun ps h => match ps with
  | [p] => match (asQ h p).bind asIs with
    | some ns => if ns = [] then none else some (.int (minI ns), h)
    | none => none
  | [.int i, .int j] => some (.int (if j < i then j else i), h)
  | _ => none
section
variable {X : Cx}
theorem cm_max (hc : X.calm = true) : CallM X (.builtin "max") fMax := by
  intro pins s σ H vs us Q I r ⟨ps, h, Φ, rh, rs, k⟩
  unfold fMax at k
  split at k
  · rename_i p
    obtain ⟨v, rfl, rv⟩ := rs.one
    cases eq : asQ h p with
    | none => rw [eq] at k; exact k.elim
    | some xs =>
      rw [eq] at k
      simp only [Option.bind] at k
      cases ei : asIs xs with
      | none => rw [ei] at k; exact k.elim
      | some ns =>
        rw [ei] at k
        simp only at k
        split at k
        · exact k.elim
        · rename_i hne
          obtain ⟨a, ws, rfl, h2, h3⟩ := asQ_ok rh rv eq
          have ew := asIs_ok h3 ei
          subst ew
          have hpos : 0 < ns.length := List.length_pos_iff.mpr hne
          rw [Vals.ref1 r]
          rcases h2 with h2 | h2
          · obtain ⟨its, rr, hl, _⟩ := I.list h2
            exact max_raw (I.ok.hd hc) hl.isList rr.ints hpos fun h' tk m t' hk k1 k2 => ⟨.int _, H, I.kept hk, ⟨_, rfl⟩, by rw [maxI_eq k1 k2]; exact k Φ H _ .refl rh rfl⟩
          · obtain ⟨its, rr, hl, _⟩ := I.tuple h2
            exact max_tup (I.ok.hd hc) hl rr.ints hpos fun h' tk m t' hk k1 k2 => ⟨.int _, H, I.kept hk, ⟨_, rfl⟩, by rw [maxI_eq k1 k2]; exact k Φ H _ .refl rh rfl⟩
  · rename_i i j
    obtain ⟨v, u, rfl, rv, ru⟩ := rs.two
    exact call_max2 hc pins s σ H _ us Q I r ⟨i, j, by rw [show v = .int i from rv, show u = .int j from ru], k Φ H _ .refl rh rfl⟩
  · exact k.elim
theorem cm_min (hc : X.calm = true) : CallM X (.builtin "min") fMin := by
  intro pins s σ H vs us Q I r ⟨ps, h, Φ, rh, rs, k⟩
  unfold fMin at k
  split at k
  · rename_i p
    obtain ⟨v, rfl, rv⟩ := rs.one
    cases eq : asQ h p with
    | none => rw [eq] at k; exact k.elim
    | some xs =>
      rw [eq] at k
      simp only [Option.bind] at k
      cases ei : asIs xs with
      | none => rw [ei] at k; exact k.elim
      | some ns =>
        rw [ei] at k
        simp only at k
        split at k
        · exact k.elim
        · rename_i hne
          obtain ⟨a, ws, rfl, h2, h3⟩ := asQ_ok rh rv eq
          have ew := asIs_ok h3 ei
          subst ew
          have hpos : 0 < ns.length := List.length_pos_iff.mpr hne
          rw [Vals.ref1 r]
          rcases h2 with h2 | h2
          · obtain ⟨its, rr, hl, _⟩ := I.list h2
            exact min_raw (I.ok.hd hc) hl.isList rr.ints hpos fun h' tk m t' hk k1 k2 => ⟨.int _, H, I.kept hk, ⟨_, rfl⟩, by rw [minI_eq k1 k2]; exact k Φ H _ .refl rh rfl⟩
          · obtain ⟨its, rr, hl, _⟩ := I.tuple h2
            exact min_tup (I.ok.hd hc) hl rr.ints hpos fun h' tk m t' hk k1 k2 => ⟨.int _, H, I.kept hk, ⟨_, rfl⟩, by rw [minI_eq k1 k2]; exact k Φ H _ .refl rh rfl⟩
  · rename_i i j
    obtain ⟨v, u, rfl, rv, ru⟩ := rs.two
    exact call_min2 hc pins s σ H _ us Q I r ⟨i, j, by rw [show v = .int i from rv, show u = .int j from ru], k Φ H _ .refl rh rfl⟩
  · exact k.elim
end
end Ev
/-! Ev17: a tuple times a number; in a list of data; != by an own __eq__. -/
namespace Ev
open PySem PySem.Spec PyProof.Rows L2
/-! ### t * k -/
theorem tuple_mulS (l : Addr) (items : Array Value) (n : Nat) (dd : Option Addr) (sl : Array (Option Value)) (u : Tok) :
    Meets (Builtin.«tuple.__mul__» ⟨[.ref l, .int 1 u], []⟩) (fun _ R s => s.heap.get? l = some { cls := .type "tuple", dict := dd, data := .seq items n, slots := sl } ∧
      R (.ok (.ret (Value.ref l))) s) :=
  .of_wp fun prog w A R s h => by
    obtain ⟨hp, g, d, tk, os⟩ := s
    obtain ⟨hl, h⟩ := h
    have f1 := AutoSeq1.idx_int
    wp_walk using wpAny_loadPart' hl
    repeat (first
      | (refine wpAny_ite_false (by decide) ?_; wp_walk using wpAny_loadPart' hl)
      | (refine wpAny_ite_true (by simp) ?_; wp_walk using wpAny_loadPart' hl))
    exact ⟨_, rfl, h⟩
def rRep1 (K : PySem.W.Frag) : R2 := fun x y H Q => ∃ l xs, x = .ref l ∧ y = .int 1 ∧ SqT K H l xs ∧ Q (.ref l) H
section
variable {X : Cx}
theorem op_rep1 : OpR X (binaryOp .Mult) (rRep1 X.K) := by
  intro pins s σ H x y v u Q I rx ry h
  obtain ⟨l, xs, rfl, rfl, hT, q⟩ := h
  cases rx
  obtain ⟨t, rfl⟩ := ry
  obtain ⟨its, r, ⟨⟨cls, dd, data, sl⟩, ho, hc, n, hd⟩, hs⟩ := I.tuple hT
  simp only at hc hd
  subst hc hd
  refine wpAny_binaryOp_repeat_ref (T := "tuple") (U := "int") (by decide) ⟨_, ho, rfl⟩ (fun s' => typeIs_int s' 1 t) noFill_tuple_mul F.fills_int_mul F.slot_int_rmul repeat_tuple F.slot_int_index.lookup
    (call_meets F.slot_int_rmul (typeIs_int s 1 t) F.entry_int_rmul (F.args_int_rmul_2 _ _) (int_rmul_tuple 1 t l its.toArray n dd sl)
      ⟨ho, rfl, ⟨_, ho, rfl⟩, call_meets F.slot_tuple_mul ⟨_, ho, rfl⟩ F.entry_tuple_mul (F.args_tuple_mul_2 _ _) (tuple_mulS l its.toArray n dd sl t) ⟨ho, ?_⟩⟩)
  exact ⟨.ref l, H, I, rfl, q⟩
end
def fRepT : OpF := fun p q h => match p, q with
  | .tup xs, .int k => if k = 1 then some (.tup xs, h) else if xs ≠ [] ∧ 2 ≤ k ∧ k ≤ 1000 ∧ xs.length ≤ 1000 then some (.tup (List.replicate k.toNat xs).flatten, h) else none
  | _, _ => none
section
variable {X : Cx}
theorem om_repT : OpM X (binaryOp .Mult) fRepT := by
  intro pins s σ H x y v u Q I rx ry ⟨p, q, h, Φ, r, rp, rq, k⟩
  unfold fRepT at k
  split at k
  · rename_i xs i
    obtain ⟨a, vs, e1, h2, h3⟩ := asT_ok rp (xs := xs) rfl
    split at k
    · rename_i hk
      subst hk
      exact op_rep1 pins s σ H x y v u Q I rx ry ⟨a, vs, e1, rq, h2, by rw [← e1]; exact k Φ H x .refl r rp⟩
    · split at k
      · rename_i hc
        obtain ⟨hn, h1, h1', hl⟩ := hc
        refine op_repT pins s σ H x y v u Q I rx ry ⟨a, i, vs, e1, rq, h2, fun z => hn ?_, h1, h1', by rw [← h3.length]; exact hl, fun p np => ?_⟩
        · have := h3.length
          rw [z] at this
          exact List.eq_nil_of_length_eq_zero this
        · obtain ⟨e, r', q'⟩ := newT_ok r (h3.rep i.toNat) np
          exact k Φ _ _ e r' q'
      · exact k.elim
  · exact k.elim
/-- t * k, xs * k, i * j -/
def fMul2 (b : Bool) : OpF := orF (fMul b) fRepT
theorem om_mul2 (b : Bool) : OpM X (binaryOp .Mult) (fMul2 b) := (om_mul b).or om_repT
/-! ### x in a list of data -/
def fInD (neg : Bool) : OpF := fun p q h => match datH h p, datH h q with
  | some d, some (.list ds) => if SeqAt.shaped d && SeqAt.shaped (.list ds) then some (.bl (xor neg (ds.any fun z => PyData.eqv z d)), h) else none
  | _, _ => none
theorem om_inDd (hu : X.A.units + 65 < cLine) : OpM X (compareOp .In) (fInD false) := OpM.of (op_inD hu) fun x y H Q p q h Φ r rp rq k => by
  unfold fInD at k
  split at k
  · rename_i d ds e1 e2
    split at k
    · rename_i hc
      rw [Bool.and_eq_true] at hc
      refine ⟨d, ds, datH_ok r rp e1, datH_ok r rq e2, hc.1, hc.2, ?_⟩
      have := k Φ H _ .refl r rfl
      rw [Bool.false_xor] at this
      exact this
    · exact k.elim
  · exact k.elim
theorem om_notInDd (hu : X.A.units + 65 < cLine) : OpM X (compareOp .NotIn) (fInD true) := OpM.of (op_notInD hu) fun x y H Q p q h Φ r rp rq k => by
  unfold fInD at k
  split at k
  · rename_i d ds e1 e2
    split at k
    · rename_i hc
      rw [Bool.and_eq_true] at hc
      refine ⟨d, ds, datH_ok r rp e1, datH_ok r rq e2, hc.1, hc.2, ?_⟩
      have := k Φ H _ .refl r rfl
      rw [Bool.true_xor] at this
      exact this
    · exact k.elim
  · exact k.elim
def fIn2 (neg : Bool) : OpF := orF (fIn neg) (fInD neg)
theorem om_in2 (hu : X.A.units + 65 < cLine) : OpM X (compareOp .In) (fIn2 false) := om_in.or (om_inDd hu)
theorem om_notIn2 (hu : X.A.units + 65 < cLine) : OpM X (compareOp .NotIn) (fIn2 true) := om_notin.or (om_notInDd hu)
theorem _root_.L2.Room.units65 {k : Nat} {A : Around} (r : Room k A) : A.units + 65 < cLine := by have := r.un; omega
end
end Ev
/-! Ev18: x != y by an own __eq__. -/
namespace Ev
open PySem PySem.Spec PyProof.Rows L2
section
variable {prog : Program} {w : World} {A : Around} {E : Value → Shared → Prop} {s : Shared} {K : PySem.W.Frag} {x C L f : Addr} {h₀ : Heap} {m : Str → Option Value} {ox : Obj} {od : Option Obj} {name : Str} {b tb : Value}
theorem ifBound_B {M : Model} {id : String} {args : List Value} {Q : Option Value → Shared → Prop} (X : K.In s.heap) (I : PySem.W.InstAt s.heap x ox C od) (hs : PySem.W.findIn K (.ref C) name = some (some (.builtin id))) (hb : ∀ self, bindSpecial (.builtin id) self = pure (.builtin id, [self]))
    (h : wpAny M A (call (.builtin id) (.ref x :: args)) (fun v => Q (some v)) E s) : wpAny M A (callSpecialIfBound? (.ref x) name args) Q E s := by
  simp only [callSpecialIfBound?, bindSpecialIfBound?]
  refine wpAny_holding (wpAny_bind (wpAny_bind (wpAny_bind (I.type.here ((PySem.W.looks_findIn X hs).here ?_)))))
  simp only [hb]
  refine wpAny_bind (wpAny_askSetting (wpAny_ite ?_))
  have fin : wpAny M A (call (.builtin id) ([.ref x] ++ args) >>= fun v => pure (some v)) Q E s := wpAny_bind (wpAny_mono h (fun v s' h' => wpAny_pure h') fun _ _ h' => h')
  split
  · exact wpAny_bind (wpAny_pure (wpAny_pure fin))
  · exact wpAny_tryCatch (wpAny_bind (wpAny_pure (wpAny_pure fin)))
theorem ne_call {Q : Value → Shared → Prop} (hu : A.units + 1 < cLine) (X : K.In s.heap) (I : PySem.W.InstAt s.heap x ox C od) (hs : PySem.W.findIn K (.ref C) "__eq__" = some (some (.ref f))) (hf : PySem.W.isFn K (.ref f) = true) (hm : PySem.W.mroIn K C (.type "object") = some true)
    (h : wpAny (model prog w) A.in1 (call (.ref f) [.ref x, b]) (fun v s' => ∃ r, v = .bool r ∧ Q (.bool (!r)) s') E s) :
    wpAny (model prog w) A (call (.builtin "object.__ne__") [.ref x, b]) Q E s := by
  have sub : PySem.W.Looks (model prog w) s.heap (isInstance (.ref x) (.type "object")) true := I.type.andThen (PySem.W.looks_mroIn X hm)
  refine wpAny_call (codeAny_call_builtin F.cmp_object.ne.plain F.cmpEntry_ne (PySem.W.check_slot F.cmpKind_ne F.cmpSplit_ne sub (F.cmpArgs_ne _ _) ?_))
  unfold Builtin.«object.__ne__»
  have hu' : A.in1.units < cLine := hu
  have eqc : wpAny (model prog w) A.in1 (callSpecialIfBound? (.ref x) "__eq__" [b]) (fun v s' => ∃ r, v = some (.bool r) ∧ Q (.bool (!r)) s') E s :=
    PySem.W.ifBound_K X I hs hf (wpAny_mono h (fun v s' hv => by obtain ⟨r, rfl, q⟩ := hv; exact ⟨r, rfl, q⟩) fun _ _ e => e)
  repeat (first | with_reducible refine wpAny_cRoomFor hu' ?_ | with_reducible refine wpAny_mono eqc (fun v s' hv => ?_) (fun _ _ e => e) | wp_step)
  obtain ⟨r, rfl, q⟩ := hv
  refine wpAny_bind (wpAny_truthy_bool ?_)
  repeat wp_step
  exact q
theorem ne_own {Q : Value → Shared → Prop} (hu : A.units + 2 < cLine) (X : K.In s.heap) (I : PySem.W.InstAt s.heap x ox C od) (hb : PySem.W.Looks (model prog w) s.heap (typeOf b) tb) (hn : PySem.W.notFirst K C tb = true)
    (hne : PySem.W.findIn K (.ref C) "__ne__" = some (some (.builtin "object.__ne__"))) (hs : PySem.W.findIn K (.ref C) "__eq__" = some (some (.ref f))) (hf : PySem.W.isFn K (.ref f) = true) (hm : PySem.W.mroIn K C (.type "object") = some true)
    (h : wpAny (model prog w) A.in1 (call (.ref f) [.ref x, b]) (fun v s' => ∃ r, v = .bool r ∧ Q (.bool (!r)) s') E s) : wpAny (model prog w) A (richCompare .NotEq (.ref x) b) Q E s := by
  have one : wpAny (model prog w) A (tryCompare (.ref x) (cmpInfo .NotEq).2.1 b) (fun r s' => ∃ v, r = some v ∧ Q v s') E s := by
    unfold tryCompare
    refine wpAny_bind (ifBound_B X I hne (fun self => F.cmp_object.ne.bind self) (ne_call (by omega) X I hs hf hm (wpAny_mono h (fun v s' hv => ?_) fun _ _ e => e)))
    obtain ⟨r, rfl, q⟩ := hv
    exact ⟨r, rfl, wpAny_pure ⟨_, rfl, q⟩⟩
  unfold richCompare
  simp only [oneThing_ref]
  refine wpAny_holding (wpAny_bind (wpAny_cRoomFor (by omega) ?_))
  refine wpAny_bind (I.type.here (wpAny_bind (hb.here ?_)))
  split
  · rename_i q
    have e : PySem.W.subIn K tb (.ref C) = some false := by
      rcases Bool.or_eq_true_iff.mp hn with e | e
      · rw [beq_iff_eq.mp e] at q; simp at q
      · exact beq_iff_eq.mp e
    refine wpAny_bind ((PySem.W.looks_subIn X e).here ?_)
    simp only [Bool.false_eq_true, if_false]
    refine wpAny_bind (wpAny_mono one (fun r s' z => ?_) fun _ _ e => e)
    obtain ⟨v, rfl, hq⟩ := z
    exact wpAny_pure hq
  · refine wpAny_bind (wpAny_pure ?_)
    simp only [Bool.false_eq_true, if_false]
    refine wpAny_bind (wpAny_mono one (fun r s' z => ?_) fun _ _ e => e)
    obtain ⟨v, rfl, hq⟩ := z
    exact wpAny_pure hq
end
/-- what the class with an own == must have -/
structure OwnNe (K : PySem.W.Frag) (C f : Addr) : Prop where
  ne : PySem.W.findIn K (.ref C) "__ne__" = some (some (.builtin "object.__ne__"))
  eq : PySem.W.findIn K (.ref C) "__eq__" = some (some (.ref f))
  fn : PySem.W.isFn K (.ref f) = true
  ob : PySem.W.mroIn K C (.type "object") = some true
def fNeC (c : Str) (g : DF) : OpF := fun p q h => match fldsOf h p, fldsOf h q with
  | some (c1, _, _), some (c2, _, _) => if c1 = c ∧ c2 = c then (match g [p, q] h with
    | .ok (.bl b) h' => some (.bl (!b), h')
    | _ => none) else none
  | _, _ => none
section
variable {X : Cx} {c : Str} {C f : Addr} {fd : FuncData} {ps : List Str} {gd : DF} {k : Nat}
theorem om_neC (gC : X.mg c = some (.ref C)) (O : OwnNe X.K C f) (F1 : FnM X.prog X.w X.K X.mg X.base k f fd ps gd) (h2 : ps.length = 2) (hb : Binds X.K fd ps []) (hr : Room (k + 1) X.A) : OpM X (compareOp .NotEq) (fNeC c gd) := by
  intro pins s σ H x y v u Q I rx ry ⟨p, q, h, Φ, r, rp, rq, kk⟩
  unfold fNeC at kk
  split at kk
  · rename_i c1 fs1 xs1 c2 fs2 xs2 e1 e2
    split at kk
    · rename_i hc
      obtain ⟨rfl, rfl⟩ := hc
      obtain ⟨a, C1, dx, kvs, rfl, g1, ha, _, _⟩ := fldsOf_ok r rp e1
      obtain ⟨b, C2, dy, kvs2, rfl, g2, hb', _, _⟩ := fldsOf_ok r rq e2
      have ec1 : C1 = C := by
        have z := g1.symm.trans gC
        cases z
        rfl
      have ec2 : C2 = C := by
        have z := g2.symm.trans gC
        cases z
        rfl
      subst ec1
      subst ec2
      cases rx
      cases ry
      split at kk
      · rename_i bb h' eg
        obtain ⟨mA, J, _⟩ := ins_get I.hok ha
        obtain ⟨mB, J', _⟩ := ins_get I.hok hb'
        obtain ⟨od, J, _⟩ := J.look
        obtain ⟨od', J', _⟩ := J'.look
        show wpAny (model X.prog X.w) X.A (richCompare .NotEq (.ref a) (.ref b)) (EP X pins σ Q) X.xe s
        refine ne_own (tb := .ref C2) (by have := hr.un; omega) I.kIn J J'.type (by simp [PySem.W.notFirst]) O.ne O.eq O.fn O.ob ?_
        have hsp : spM ⟨X.K, X.mg⟩ ps.length gd [.ref a, .ref b] H (fun v H' => v = .bl bb ∧ Q (.bl (!bb)) H') (fun _ _ _ => False) := by
          refine ⟨by rw [h2]; rfl, [p, q], h, Φ, r, ⟨_, _, rfl, rp, _, _, rfl, rq, rfl⟩, ?_⟩
          rw [eg]
          exact fun Φ' H' u e' r' ru => ⟨ru, kk Φ' H' _ e' r' rfl⟩
        have e0 : Env0 X.prog X.w X.K X.mg X.base X.A.in1 X.stack s H := by
          have e := I.env0
          exact ⟨e.frames, e.mod, e.bs, e.bsz, e.funs, e.frf, e.hok, e.bare⟩
        have r2 : Vals [V.ref a, V.ref b] [Value.ref a, Value.ref b] := .cons rfl (.cons rfl .nil)
        have bb' := hb s [.ref a, .ref b] I.kIn (by rw [List.append_nil, h2]; rfl)
        rw [List.append_nil] at bb'
        refine wpAny_call (codeAny_mono (F1.run X.A.in1 X.stack s H ⟨[.ref a, .ref b], []⟩ [.ref a, .ref b] [.ref a, .ref b] _ (fun _ _ _ => False) hr.in1 e0 bb' r2 hsp) fun r s' hq => ?_)
        cases r with
        | error e => exact passAt LamX.takes0 σ pins H s e s' I hq
        | ok fl =>
          cases fl with
          | ret w =>
            obtain ⟨z, H', I', rz, ez, qz⟩ := I.after hq
            subst ez
            cases rz
            exact ⟨bb, rfl, .bl (!bb), H', I', rfl, qz⟩
          | next => exact False.elim hq
          | brk => exact False.elim hq
          | cont => exact False.elim hq
      · exact kk.elim
    · exact kk.elim
  · exact kk.elim
end
end Ev
/-! Ev19: a, b = x, y; the end of a law without lambdas; methods' defs. -/
namespace Ev
open PySem PySem.Spec PyProof.Rows L2
def mPar (i j : Nat) (as : AM) : SM := fun ρ h => (as ρ h).st ρ fun ps h1 => match ps with
  | [p, q] => .nx ((ρ.set i (some p)).set j (some q)) h1
  | _ => .bad
def mPar3 (i j l : Nat) (as : AM) : SM := fun ρ h => (as ρ h).st ρ fun ps h1 => match ps with
  | [p, q, r] => .nx (((ρ.set i (some p)).set j (some q)).set l (some r)) h1
  | _ => .bad
theorem Rs.three {G : Gr} {Φ : Fo} {H : Hp} {p q r : PV} {vs : List V} (k : Rs G Φ H [p, q, r] vs) : ∃ u v w, vs = [u, v, w] ∧ R G Φ H p u ∧ R G Φ H q v ∧ R G Φ H r w := by
  obtain ⟨u, _, rfl, h1, v, _, rfl, h2, w, _, rfl, h3, rfl⟩ := k
  exact ⟨u, v, w, rfl, h1, h2, h3⟩
section
variable {X : Cx} {W : WX} {mr : AM} {i j l : Nat} {x y z : Str} {a b c : Expr} {px py pz pt pos : Pos} {kt k2 : Nat} {pt2 : Pos}
theorem ms_par (hc : X.calm = true) (hN : X.N.Nodup) (ha : PA X [a, b] (tmA (gr X) W mr)) (hi : X.N[i]? = some x := by rfl) (hj : X.N[j]? = some y := by rfl) (hij : i ≠ j := by decide)
    (hx : X.env.scope.names.lookup x = some .local := by rfl) (hy : X.env.scope.names.lookup y = some .local := by rfl)
    (hw : swappedStores [.Tuple [.Name x px, .Name y py] kt pt] (.Tuple [a, b] k2 pt2) X.env = pure (some [x, y]) := by rfl)
    (hs : swapsWithSole [.Tuple [.Name x px, .Name y py] kt pt] (.Tuple [a, b] k2 pt2) pos.line X.env = pure false := by rfl) :
    PS X (.Assign [.Tuple [.Name x px, .Name y py] kt pt] (.Tuple [a, b] k2 pt2) pos) (tsm (gr X) W (mPar i j mr)) :=
  PS_imp (ps_par hc hN hi hj hij hx hy ha hw hs) fun D σ H ⟨ρ, h, Φ, r, rs, q⟩ => ⟨ρ, h, Φ, r, rs, okS.st rs q fun ps h1 Φ1 H1 vs e1 r1 rp q1 => by
    split at q1
    · rename_i p q
      obtain ⟨v, u, rfl, rv, ru⟩ := rp.two
      exact ⟨v, u, rfl, q1 Φ1 H1 _ .refl r1 (((rs.ext e1).set i rv).set j ru)⟩
    · exact q1.elim⟩
theorem ms_par3 (hc : X.calm = true) (hN : X.N.Nodup) (ha : PA X [a, b, c] (tmA (gr X) W mr)) (hi : X.N[i]? = some x := by rfl) (hj : X.N[j]? = some y := by rfl) (hl : X.N[l]? = some z := by rfl) (hij : i ≠ j := by decide) (hil : i ≠ l := by decide) (hjl : j ≠ l := by decide)
    (hx : X.env.scope.names.lookup x = some .local := by rfl) (hy : X.env.scope.names.lookup y = some .local := by rfl) (hz : X.env.scope.names.lookup z = some .local := by rfl)
    (hw : swappedStores [.Tuple [.Name x px, .Name y py, .Name z pz] kt pt] (.Tuple [a, b, c] k2 pt2) X.env = pure (some [x, y, z]) := by rfl)
    (hs : swapsWithSole [.Tuple [.Name x px, .Name y py, .Name z pz] kt pt] (.Tuple [a, b, c] k2 pt2) pos.line X.env = pure false := by rfl) :
    PS X (.Assign [.Tuple [.Name x px, .Name y py, .Name z pz] kt pt] (.Tuple [a, b, c] k2 pt2) pos) (tsm (gr X) W (mPar3 i j l mr)) :=
  PS_imp (ps_par3 hc hN hi hj hl hij hil hjl hx hy hz ha hw hs) fun D σ H ⟨ρ, h, Φ, r, rs, q⟩ => ⟨ρ, h, Φ, r, rs, okS.st rs q fun ps h1 Φ1 H1 vs e1 r1 rp q1 => by
    split at q1
    · rename_i p q s
      obtain ⟨v, u, w, rfl, rv, ru, rw⟩ := rp.three
      exact ⟨v, u, w, rfl, q1 Φ1 H1 _ .refl r1 ((((rs.ext e1).set i rv).set j ru).set l rw)⟩
    · exact q1.elim⟩
/-- a call without arguments -/
theorem me_call0 {k : Nat} {f : Addr} {fd : FuncData} {ps : List Str} {gd : DF} {x : Str} {p : Pos} (F : FnM X.prog X.w X.K X.mg X.base k f fd ps gd) (hn : ∀ qs h, gd qs h ≠ .bad → qs.length = ps.length) (hr : Room k X.A) (hm : X.mg x = some (.ref f)) (hk : PySem.W.keepIn X.K (.ref f) = true) (hb : Binds X.K fd ps []) (tk : Takes X W)
    (hg : Gl X x := by rfl) (hdb : (x == ("__debug__" : Str)) = false := by decide) :
    PE X (.Call (.Name x p) [] [] pos) (tmE (gr X) W (mCall gd mNil)) := by
  refine ⟨fun pins s σ H Q I q => ?_⟩
  refine wpAny_Call_Name_kw (ld_glob I hg hm ?_ hdb)
  refine PySem.W.callWith_K0 I.kIn hk ?_
  have q' := call_ok hn q
  obtain ⟨ρ, h, Φ, r, rs, q1⟩ := q
  refine run_fnS (E := WE W) (us := []) (vs := []) F hr hb (passAt tk σ) I .nil ?_
  have q1' : okO (R (gr X)) (gr X) W Q σ Φ H (gd [] h) := q1
  have hne : gd [] h ≠ .bad := fun z => by rw [z] at q1'; exact q1'
  exact ⟨(hn _ _ hne).symm ▸ rfl, [], h, Φ, r, rfl, q1'.slots⟩
end
/-- a method's def -/
theorem meth_mk {K : PySem.W.Frag} {x qn : Str} {st : Stmt} {ps : List Str} {C f : Addr} {oc : Value} {od an : Option Addr} {osl : Array (Option Value)} {kV doc pm cdv ct : Value}
    (hb : ∀ (kV doc pm : Value) (an : Option Addr) (cdv ct : Value) (us : List Value), us.length = ps.length → bindArgs (PySem.W.fnOf x qn (defArgs st) (defBody st) (defScope st) .none kV doc pm an cdv ct) ⟨us, []⟩ = pure (ps.zip us))
    (a : PySem.W.findIn K (.ref C) x = some (some (.ref f))) (l : K.lookup f = some ⟨oc, od, .func (PySem.W.fnOf x qn (defArgs st) (defBody st) (defScope st) .none kV doc pm an cdv ct), osl⟩)
    (c : PySem.W.codeIn K cdv qn = true) (k : PySem.W.keepIn K (.ref f) = true) (i : PySem.W.isFn K (.ref f) = true) : ∃ f fd, Fun K x qn st f fd ∧ Binds K fd ps [] ∧ Meth K C x f :=
  have F := fun_mk (st := st) l c k
  ⟨f, _, F, F.binds hb, ⟨a, i, k⟩⟩
/-- the law's promise from its mirror's answer, no table asked for -/
theorem lawAt0 {l : PySem.W.OpenLaw} {w : World} {K : PySem.W.Frag} {k n : Nat} {pn : Str} {mg : Str → Option Value} {fa : Addr} {h : Heap} {fd : FuncData} {m : DF}
    (hb : ∀ (s : Shared) (u : Value), BindsTo s fd ⟨[u], []⟩ [(pn, u)]) (hm : ∀ ns : List Int, ns.length ≤ n → ∃ h', m [.rol (ns.map PV.int)] [] = .ok (.bl true) h')
    (hF : ∀ base : Heap, K.In base → base.Ns mainGlobals mg → FnM l.prog w K mg base k fa fd [pn] m) : LamX.LawAtS l w K (L2.CX l.prog w) k n pn mg fa h := by
  refine ⟨fd, [], spM ⟨K, mg⟩ 1 m, (by intro p hp; cases hp), (by intro p hp; cases hp), (by intro p hp; cases hp), hb, fun H a ns hl _ _ hS => ⟨rfl, ?_⟩, fun base X G _ => hF base X G⟩
  obtain ⟨h', e⟩ := hm ns hl
  refine ⟨[.rol (ns.map PV.int)], [], ⟨[], []⟩, ⟨by simp, rfl, (fun a ha => by cases ha), fun m o z => by simp at z⟩, ?_, ?_⟩
  · refine ⟨_, [], rfl, ⟨a, ns.map V.int, rfl, ?_, Rs.ints ns⟩, rfl⟩
    rcases hS with hS | hS
    · exact .inl ⟨⟨fun z => (by cases z), fun z => by cases z⟩, hS⟩
    · exact .inr hS
  · rw [e]
    exact fun Φ' H' u e r ru => ru
end Ev
/-! Ev20: isinstance of an own class (where it is). -/
namespace Ev
open PySem PySem.Spec PyProof.Rows L2
def fIsC (c : Str) : CF := fun ps h => match ps with
  | [p, .gl x] => match fldsOf h p with
    | some (c', _, _) => if c' = c ∧ x = c then some (.bl true, h) else none
    | none => none
  | _ => none
section
variable {X : Cx}
theorem cm_isC {c : Str} {C : Addr} (gC : X.mg c = some (.ref C)) (I0 : C8.InsC X.K C) : CallM X (.builtin "isinstance") (fIsC c) := CallM.of (C8.call_isC I0) fun xs H Q ps h Φ r rs k => by
  unfold fIsC at k
  split at k
  · rename_i p x
    obtain ⟨v, u, rfl, rv, ru⟩ := rs.two
    split at k
    · rename_i c' fs xs' e
      split at k
      · rename_i hc
        obtain ⟨rfl, rfl⟩ := hc
        obtain ⟨a, C', dx, kvs, rfl, g1, g2, _, _⟩ := fldsOf_ok r rv e
        obtain ⟨b, g3, rfl⟩ := ru
        cases g3.symm.trans gC
        cases g1.symm.trans gC
        exact ⟨a, dx, kvs, rfl, g2, k Φ H _ .refl r rfl⟩
      · exact k.elim
    · exact k.elim
  · exact k.elim
end
end Ev
set_option maxHeartbeats 2000000
/-! An own error with one field, part: class X(..ValueError): def __init__(self, part): super().__init__(part); self.part = part. The frame of the proof is that of the skeleton 42, its __init__ walked at the code that super() asks for. -/
namespace PySem
namespace FldX_part
open PySem.W PySem.Calls PyProof.Rows PySem.HandSPX
/-! ### the text of __init__ -/
abbrev fld : Str := "part"
def iA (p1 p2 : Pos) : Arguments := { posonlyargs := [], args := [{ arg := "self", annotation := none, pos := p1 }, { arg := fld, annotation := none, pos := p2 }], vararg := none, kwonlyargs := [], kw_defaults := [], kwarg := none, defaults := [] }
structure Ps where
  a : Pos
  b : Pos
  c : Pos
  d : Pos
  e : Pos
  f : Pos
  g : Pos
  h : Pos
  i : Pos
  j : Pos
def iB (q : Ps) : List Stmt :=
  [.Expr (.Call (.Attribute (.Call (.Name "super" q.a) [] [] q.b) "__init__" q.c) [.Name fld q.d] [] q.e) q.f, .Assign [.Attribute (.Name "self" q.g) fld q.h] (.Name fld q.i) q.j]
def iS : Scope := { kind := .function, names := [(PySem.Str.ofString "self", .local), (fld, .local), (PySem.Str.ofString "__class__", .free), (PySem.Str.ofString "super", .globalImplicit)], isGenerator := false, isCoroutine := false, more := [] }
/-- how the call of super().__init__ is read (where the text stands on one line) -/
def MethEv (q : Ps) : Prop := ∃ pl : Sem Bool, ∀ env : Env, eval (.Call (.Attribute (.Call (.Name "super" q.a) [] [] q.b) "__init__" q.c) [.Name fld q.d] [] q.e) env = (do
  let ov ← attributeBase (.Call (.Name "super" q.a) [] [] q.b) "__init__" env (eval (.Call (.Name "super" q.a) [] [] q.b) env)
  standAt q.c.atName
  let (f, first) ← holding [ov] (getMethod ov "__init__" pl)
  callWith q.e f first (backTo q.e (starEach [.Name fld q.d] env)) [])
/-- what the written part says of the class at C, and of its __init__, at fI -/
structure Txt (q : Ps) (prog : Program) (K : Frag) (mg : Str → Option Value) (cn : Str) (C fI : Addr) : Prop where
  hev : MethEv q
  gC : mg cn = some (.ref C)
  gs : mg "super" = none
  cls : ∃ nm q N bs bm sn sub ab col dd k0 k1 k2 k3 k5, K.lookup C = some (excClassObj nm q C N bs bm true sn sub ab col dd k0 k1 k2 k3 k5 "ValueError.__new__") ∧ refsVE bm = true
  sa : findIn K (.ref C) "__setattr__" = some (some (.builtin "object.__setattr__"))
  ga : findIn K (.ref C) "__getattribute__" = some (some (.builtin "BaseException.__getattribute__"))
  gg : findIn K (.ref C) "__getattr__" = some none
  noN : findIn K (.ref C) fld = some none
  iC : findIn K (.ref C) "__init__" = some (some (.ref fI))
  tC : typeIn K (.ref fI) = some (.type "function")
  kC : keepIn K (.ref C) = true
  exC : subIn K (.ref C) (.type "BaseException") = some true
  tyC : typeIn K (.ref C) = some (.type "type")
  hdC : hasDictIn K C = true
  hB : subIn K (.ref C) (.type "ValueError") = some true
  hm : ks_superIn K C C "__init__" = some (some (.builtin "ValueError.__init__"))
  hs : mroIn K C (.ref C) = some true
  ho : nsIn K cStatics "thirdparty.any" = some none
  htop : (prog.main.scope.names.lookup ("super" : Str)).isSome = false
  fn : ∃ (oc : Value) (od : Option Addr) (doc pm : Value) (an : Option Addr) (cda cc : Addr) (ct : Value) (osl : Array (Option Value)) (p1 p2 : Pos) (cl ccl : Value) (cld cdd : Option Addr) (csl ccs : Array (Option Value)) (vs : Array Value) (file : Str) (tf : Tok) (qi : Str),
    K.lookup fI = some ⟨oc, od, .func (ksFn "__init__" qi (iA p1 p2) (iB q) iS .none .none doc pm an (.ref cda) ct cc), osl⟩ ∧ codeIn K (.ref cda) qi = true ∧
    K.lookup cc = some ⟨cl, cld, .cell (some (.ref C)), csl⟩ ∧ K.lookup cda = some ⟨ccl, cdd, .fields vs, ccs⟩ ∧ vs[2]? = some (.str file tf) ∧ ((prog.main.file : Str) == file) = true
theorem one_size (v : Value) : [v].length ≤ sizeLine := by
  rw [sizeLine_eq]
  exact (by decide : 1 ≤ 16777216)
/-- what __init__ leaves of a fresh exception at x -/
structure InitEnd (h h' : Heap) (x C dx t1 : Addr) (v : Value) : Prop where
  keep : ∀ b o, b ≠ x → h.get? b = some o → h'.get? b = some o
  obj : h'.get? x = some { cls := .ref C, dict := some dx, data := .fields #[.ref t1, .none, .none, .none, .bool false, .none] }
  dbig : h.objs.size ≤ dx
  dne : dx ≠ x
  ns : h'.Ns1 dx (fun y => if y = fld then some v else none)
/-- a made one -/
structure OwnMade (h h' : Heap) (e C d : Addr) (v : Value) : Prop where
  keep : ∀ b o, h.get? b = some o → h'.get? b = some o
  new : h.objs.size ≤ e
  obj : ∃ oe vs, h'.get? e = some oe ∧ oe.cls = .ref C ∧ oe.dict = some d ∧ oe.data = .fields vs ∧ vs[1]? = some .none
  dbig : h.objs.size ≤ d
  dne : d ≠ e
  ns : h'.Ns1 d (fun y => if y = fld then some v else none)
section
variable {prog : Program} {w : World} {A : Around} {E : Value → Shared → Prop} {R : Result → Shared → Prop} {s : Shared} {K : Frag} {mg : Str → Option Value} {cn : Str} {C fI : Addr} {q : Ps}
theorem init_walk (T : Txt q prog K mg cn C fI) {base : Heap} (kb : ∀ b o, base.get? b = some o → s.heap.get? b = some o) (md : L2.Mod K mg base) {x t0 : Addr} {v : Value} (hx : s.heap.get? x = some (excO C t0)) (hnb : base.get? x = none) (hroom : A.depth < recursionLimit)
    (hq : ∀ h' tk t1 dx, InitEnd s.heap h' x C dx t1 v → R (.ok (.ret .none)) { s with heap := h', toks := tk }) :
    codeAny (model prog w) A (.call (.ref fI) ⟨[.ref x, v], []⟩) R s := by
  obtain ⟨oc, od, doc, pm, an, cda, cc, ct, osl, p1, p2, cl, ccl, cld, cdd, csl, ccs, vs, file, tf, qi, hf, hcd, hcell, hcode, hvs, hfile⟩ := T.fn
  obtain ⟨nm, qn, N, bs, bm, sn, sub, ab, col, dd, k0, k1, k2, k3, k5, hC, hbm⟩ := T.cls
  have hcl : clsIn K C = some { name := nm, bases := bs, mro := .ref C :: bm, ns := N, qualname := qn, hasDict := true, slotNames := sn, subclasses := sub, abstract := ab, collection := col, hasDel := false } := by unfold clsIn; rw [hC] <;> rfl
  have X : K.In s.heap := md.kin.keeps kb
  have lim : s.heap.NoLimit := md.nolimit.keeps kb
  have l1 : iS.names.lookup ("self" : Str) = some .local := rfl
  have l2 : iS.names.lookup fld = some .local := rfl
  have l3 : iS.names.lookup ("__class__" : Str) = some .free := rfl
  have l4 : iS.names.lookup ("super" : Str) = some .globalImplicit := rfl
  refine ks_codeAny_call_defAt (fd := ksFn "__init__" qi (iA p1 p2) (iB q) iS .none .none doc pm an (.ref cda) ct cc) (body := iB q) (binds := [("self", .ref x), (fld, v)]) hroom (X _ _ hf) rfl lim (codeRec_of X hcd) rfl
    (.of_eq ?bind) ?hcell ?hloc (fun h₁ hns hk₁ => ?_) rfl rfl rfl
  case bind => first | rfl | with_unfolding_all rfl
  case hcell =>
    intro y hy
    have hy' : y ∈ iS.names := hy
    unfold iS at hy'
    simp only [List.mem_cons, List.not_mem_nil, or_false] at hy'
    rcases hy' with rfl | rfl | rfl | rfl <;> exact fun z => nomatch z
  case hloc =>
    intro y hy
    simp only [List.mem_cons, List.not_mem_nil, or_false] at hy
    rcases hy with rfl | rfl
    · exact l1
    · exact l2
  have X₁ : K.In h₁ := X.keeps hk₁
  have kb₁ : ∀ b o, base.get? b = some o → h₁.get? b = some o := fun b o e => hk₁ b o (kb b o e)
  have hx₁ : h₁.get? x = some (excO C t0) := hk₁ _ _ hx
  obtain ⟨oD, hD1, hD2⟩ : ∃ oD, h₁.get? C = some oD ∧ ∃ cd, oD.data = .cls cd := ⟨_, X₁ _ _ hC, _, rfl⟩
  obtain ⟨cdD, hD2⟩ := hD2
  obtain ⟨mb, hb1, hb2⟩ := md.blt
  have hself : (fun y => ([("self", .ref x), (fld, v)] : List (Str × Value)).reverse.lookup y) "self" = some (.ref x) := rfl
  have hfld : (fun y => ([("self", .ref x), (fld, v)] : List (Str × Value)).reverse.lookup y) fld = some v := rfl
  have hxC : x ≠ C := fun z => by
    rw [z, X₁ _ _ hC] at hx₁
    have z2 := Option.some.inj hx₁
    have z3 := congrArg Obj.data z2
    cases z3
  obtain ⟨pl, hev⟩ := T.hev
  unfold iB
  refine ks_wpAt_execs_cons (ks_wpAt_Expr_any (ks_wpAt_MethodCall (pl := pl) (he := hev _) (ks_wpAt_super_base (env := callEnv (ksFn "__init__" qi (iA p1 p2) _ iS .none .none doc pm an (.ref cda) ct cc) s.heap.objs.size fI) l4 l3 (by decide) rfl (X₁ _ _ hf) rfl rfl rfl (X₁ _ _ hcode) rfl hvs hfile T.htop ?_)))
  refine ks_loadName_global rfl l4 (loadGlobal_builtin (md.glob.keeps kb₁) T.gs (hb1.keeps kb₁) ((hb2 _ (by decide)).trans rfl) ⟨rfl, ?_⟩)
  refine wpAny_loadName_free rfl l3 rfl ⟨_, X₁ _ _ hcell, rfl⟩ ?_
  refine wpAny_loadName_local rfl l1 hns hself ?_
  refine ks_wpAny_isType_cls hD1 hD2 ⟨rfl, ?_⟩
  refine ks_wpAny_call_super hD1 hD2 hx₁ rfl (fun c z => nomatch z) (looks_mroIn X₁ T.hs) (fun h₂ e₂ k₂ => ?_)
  -- the method, bound to the exception
  have X₂ : K.In h₂ := X₁.keeps k₂
  have hx₂ : h₂.get? x = some (excO C t0) := k₂ _ _ hx₁
  have IA : InstAt h₂ x (excO C t0) C none := ⟨hx₂, rfl, rfl, trivial⟩
  refine kxs_getMethod kxs_ValueError e₂ (looks_opaque X₂ T.ho) (l₀ := .ref C :: bm) (fun A Q E s k q => wpAny_bind ((looks_clsIn X₂ hcl) A _ E s k (wpAny_pure q))) rfl X₂ ?hm (IA.type.andThen (looks_subIn X₂ T.hB)) hxC (by decide) ?_
  case hm =>
    have z := T.hm
    unfold ks_superIn at z
    rw [hcl] at z
    exact z
  -- the argument
  have hns₂ : h₂.Ns s.heap.objs.size fun y => ([("self", .ref x), (fld, v)] : List (Str × Value)).reverse.lookup y := hns.keeps k₂
  refine kxs_callWith (i := "ValueError.__init__") (x := x) rfl (evalArgs_plain (spliced_cons ?_))
  refine wpAny_Name (wpAny_loadName_local rfl l2 (hns₂.keeps (fun b o e => Heap.get?_push_of_some _ e)) hfld ?_) (by decide)
  refine spliced_nil ⟨Heap.get?_push_size _ rfl, ?_⟩
  -- the built-in __init__
  refine wpAny_call (codeAny_of_tree ?_)
  show wpAny _ _ (callAny (.ref h₂.objs.size) ⟨[v], []⟩) _ _ _
  simp only [callAny]
  refine wpAny_bind (wpAny_load (Heap.get?_push_size h₂ rfl) ?_)
  simp only [kxs_mw, show (Value.type "method-wrapper" == Value.type "method" || Value.type "method-wrapper" == Value.type "builtin_function_or_method" || Value.type "method-wrapper" == Value.type "method-wrapper") = true by decide, if_true]
  refine KFB.if_so (by decide) ?_
  have k₃ : ∀ b o, h₂.get? b = some o → (h₂.push (kxs_mw "ValueError.__init__" x)).get? b = some o := fun b o e => Heap.get?_push_of_some _ e
  refine wpAny_bind (check_bound_init F.excBase_ValueError.toExcCallFacts (k₃ _ _ (X₂ _ _ hC)) (k₃ _ _ hx₂) rfl ?_)
  refine wpAny_bind (wpAny_pure (wpAny_pure ?_))
  refine ⟨plainId_quiet F.excBase_ValueError.init.plain _, codeAny_builtin F.excBase_ValueError.initEntry ?_⟩
  refine exc_init_tree (cls := .ref C) (t0 := t0) (dv := none) (c2 := .none) (c3 := .none) (b4 := .bool false) (k₃ _ _ hx₂) (one_size v) (fun h₄ k₄ hx₄ _ => ?_)
  -- self.part = part
  have k14 : ∀ b o, b ≠ x → h₁.get? b = some o → h₄.get? b = some o := fun b o hb e => k₄ b o hb (k₃ b o (k₂ b o e))
  have hxL : s.heap.objs.size ≠ x := Nat.ne_of_gt (Heap.lt_size hx)
  have hnx : K.lookup x = none := by
    cases e : K.lookup x with
    | none => rfl
    | some o =>
      have z : base.get? x = some o := md.kin _ _ e
      rw [hnb] at z; cases z
  have X₄ : K.In h₄ := fun a o e => k14 a o (fun z => by rw [z, hnx] at e; cases e) (X₁ a o e)
  have hns₄ : h₄.Ns s.heap.objs.size fun y => ([("self", .ref x), (fld, v)] : List (Str × Value)).reverse.lookup y := by
    obtain ⟨o, es, ep, ho, r⟩ := hns
    exact ⟨o, es, ep, k14 _ _ hxL ho, r⟩
  refine wpAt_of_wpAny (wpAny_execs_cons (plainObj_wpAny_Assign_Attribute ?_))
  refine wpAny_Name (wpAny_loadName_local rfl l2 hns₄ hfld ?_) (by decide)
  refine wpAny_Name (wpAny_loadName_local rfl l1 hns₄ hself ?_) (by decide)
  refine set_plain X₄ (ox := excO C (h₂.push (kxs_mw "ValueError.__init__" x)).objs.size) (od := none) ⟨hx₄, rfl, rfl, trivial⟩ T.sa ?_
  refine exc_osa X₄ hx₄ hcl (show refsVE (.ref C :: bm) = true from hbm) rfl T.noN (fun h₅ tk₅ dx k₅ dn dne hx₅ hn₅ => ?_)
  have sz : ∀ {b o}, s.heap.get? b = some o → b ≠ x → h₅.get? b = some o := fun {b o} e hb => k₅ b o hb (k14 b o hb (hk₁ b o e))
  have big : s.heap.objs.size ≤ dx := by
    have z : s.heap.objs.size < h₄.objs.size := hns₄.lt
    exact Nat.le_trans (Nat.le_of_lt z) dn
  exact wpAny_execs_nil (hq h₅ tk₅ _ dx ⟨fun b o hb e => sz e hb, hx₅, big, dne, hn₅⟩)
theorem made (T : Txt q prog K mg cn C fI) {base : Heap} {v : Value} (kb : ∀ b o, base.get? b = some o → s.heap.get? b = some o) (md : L2.Mod K mg base) (hroom : A.depth + 1 < recursionLimit)
    (hq : ∀ h' tk e d, OwnMade s.heap h' e C d v → R (.ok (.ret (.ref e))) { s with heap := h', toks := tk }) :
    codeAny (model prog w) A (.call (.ref C) ⟨[v], []⟩) R s := by
  obtain ⟨nm, qn, N, bs, bm, sn, sub, ab, col, dd, k0, k1, k2, k3, k5, hC, hbm⟩ := T.cls
  have X : K.In s.heap := md.kin.keeps kb
  obtain ⟨hp, g, dr, tk, os⟩ := s
  have k : ∀ b o, hp.get? b = some o → ((hp.push (kdv_tup [v])).push (excO C hp.objs.size)).get? b = some o := fun b o e => Heap.get?_push_of_some _ (Heap.get?_push_of_some _ e)
  have hget : ((hp.push (kdv_tup [v])).push (excO C hp.objs.size)).get? (hp.objs.size + 1) = some (excO C hp.objs.size) := by heap_get
  have hnb : base.get? (hp.objs.size + 1) = none := by
    cases e : base.get? (hp.objs.size + 1) with
    | none => rfl
    | some o => exact absurd (Nat.lt_of_succ_lt (Heap.lt_size (kb _ _ e))) (Nat.lt_irrefl _)
  refine call_own F.excBase_ValueError (fun X => refsVE_contains X bm hbm) (X _ _ hC) (looks_findIn X T.iC) (fun self => bind_fn X self T.tC) (one_size v) ?_
  refine init_walk (s := ⟨(hp.push (kdv_tup [v])).push (excO C hp.objs.size), g, dr, tk, os⟩) T (fun b o e => k b o (kb b o e)) md hget hnb ?_ fun h' tk' t1 dx ⟨k', hx, dn, dne, hns⟩ => ?_
  · show A.depth + 1 < recursionLimit
    exact hroom
  · have old : ∀ b o, hp.get? b = some o → h'.get? b = some o := fun b o e => k' b o (Nat.ne_of_lt (Nat.lt_succ_of_lt (Heap.lt_size e))) (k b o e)
    have z : hp.objs.size + 1 + 1 ≤ dx := by
      first
        | (simpa only [Heap.size_push] using dn)
        | exact dn
        | (have q := dn; rw [Heap.size_push, Heap.size_push] at q; exact q)
    exact ⟨rfl, hq h' tk' (hp.objs.size + 1) dx ⟨old, Nat.le_succ _, ⟨_, _, hx, rfl, rfl, rfl, rfl⟩, Nat.le_trans (Nat.le_trans (Nat.le_succ _) (Nat.le_succ _)) z, dne, hns⟩⟩
end
end FldX_part
end PySem
namespace Ev
namespace X_part
open PySem PySem.Spec PyProof.Rows L2
open PySem.FldX_part (fld Txt)
theorem relO_fld {v : V} {v' : Value} (r : RelV v v') (f : Str) : RelO (List.lookup f [(fld, v)]) (if f = fld then some v' else none) := by
  by_cases hw : f = fld
  · subst hw
    rw [if_pos rfl]
    have q : List.lookup fld [(fld, v)] = some v := by simp [List.lookup]
    rw [q]
    exact r
  · rw [if_neg hw]
    have qw : (f == fld) = false := by simpa using hw
    have q2 : List.lookup f [(fld, v)] = none := by simp [List.lookup, qw]
    rw [q2]
    trivial
section
variable {X : Cx} {q : PySem.FldX_part.Ps} {cn : Str} {C fI : Addr}
/-- X(e) -/
def tMk (C : Addr) (ta : TA) : Sl → Hp → XK → Prop := fun σ H Q => ta σ H fun vs H1 => ∃ v, vs = [v] ∧ ∀ d, H1 d = none → Q (.ref C) (some d) (upd H1 d (.xd [(fld, v)]))
theorem pmk {a : Expr} {ta : TA} {p pos : Pos} {k : Nat} (T : Txt q X.prog X.K X.mg cn C fI) (hr : Room k X.A) (ha : PA X [a] ta) (hg : Gl X cn) (hd : (cn == ("__debug__" : Str)) = false)
    (he : starEach (a :: []) X.env = (false, eval a X.env) :: starEach [] X.env := by rfl) (hpl : (backTo pos (starEach [] X.env)).any (·.1) = false := by rfl) :
    PMk X (.Call (.Name cn p) [a] [] pos) (tMk C ta) := by
  intro pins s σ H Q I h
  refine wpAny_Call_Name_kw (ld_glob I hg T.gC ?_ hd)
  refine PySem.W.callWith_K (h₀ := X.base) I.ok.mod.kin T.kC (thn (ha.run pos pins s σ H _ I h) fun us s1 hh => ?_) he hpl
  obtain ⟨vs, H1, I1, r1, v, ev, q1⟩ := hh
  subst ev
  refine ⟨I1.kIn, ?_⟩
  cases r1 with
  | cons rv rn =>
    rename_i v' us'
    cases rn
    show wpAny _ _ (call (.ref C) [v']) _ _ _
    have kb := I1.bk
    obtain ⟨hp, g, dr, tk, os⟩ := s1
    refine wpAny_call (PySem.FldX_part.made T kb I1.ok.mod (by have := hr.dp; omega) fun h' tk' e d M => ?_)
    show MkP X pins σ Q (.ref e) ⟨h', g, dr, tk', os⟩
    obtain ⟨oe, fv, hoe, hc, hd, hdat, h1⟩ := M.obj
    have hns := M.ns
    obtain ⟨G', g1, g2⟩ := restrict h' fun b => decide (b ≠ e)
    have gk : ∀ b, b ≠ e → G'.get? b = h'.get? b := fun b hb => g1 b (decide_eq_true hb)
    have ge : G'.get? e = none := g2 e (by simp)
    have old : ∀ b o, hp.get? b = some o → G'.get? b = some o := fun b o q => (gk b (Nat.ne_of_lt (Nat.lt_of_lt_of_le (Heap.lt_size q) M.new))).trans (M.keep b o q)
    have ob : ObjOk X.prog X.w (upd H1 d (.xd [(fld, v)])) G' d (.xd [(fld, v)]) :=
      ⟨_, hns.at (fun o q => (gk d M.dne).trans q), fun f => relO_fld rv f⟩
    have J : Inv X pins σ (upd H1 d (.xd [(fld, v)])) ⟨G', g, dr, tk', os⟩ := I1.laid (t' := tk') old M.dbig ob
    refine ⟨e, oe, fv, ⟨G', g, dr, tk', os⟩, _, .ref C, some d, rfl, J, fun b o q => ?_, ge, hoe, ⟨hc, hd⟩, hdat, h1, ?_, rfl, I1.bare, raises_own T.exC T.tyC, q1 d (I1.hok.fresh M.dbig)⟩
    · by_cases hb : b = e
      · have q' : G'.get? b = some o := q
        rw [hb, ge] at q'; cases q'
      · exact (gk b hb).symm.trans q
    · rw [upd_ne (Ne.symm M.dne)]
      exact I1.hok.fresh M.new
/-- raise X(e) -/
def mRaise (cn : Str) (as : AM) : SM := fun ρ h => (as ρ h).st ρ fun ps h1 => match ps with
  | [p] => .ex cn [fld] [p] ρ h1
  | _ => .bad
theorem ms_raise {W : WX} {a : Expr} {mr : AM} {p pos pos2 : Pos} {k : Nat} (hc : X.calm = true) (T : Txt q X.prog X.K X.mg cn C fI) (hr : Room k X.A) (tk : Takes X W) (ha : PA X [a] (tmA (gr X) W mr)) (hg : Gl X cn := by rfl) (hd : (cn == ("__debug__" : Str)) = false := by decide)
    (he : starEach (a :: []) X.env = (false, eval a X.env) :: starEach [] X.env := by rfl) (hpl : (backTo pos (starEach [] X.env)).any (·.1) = false := by rfl) :
    PS X (.Raise (some (.Call (.Name cn p) [a] [] pos)) none pos2) (tsm (gr X) W (mRaise cn mr)) := PS_imp (ps_raise hc tk (pmk T hr ha hg hd he hpl)) fun D σ H ⟨ρ, h, Φ, r, rs, q⟩ =>
  ⟨ρ, h, Φ, r, rs, okS.st rs q fun ps h1 Φ1 H1 xs e1 r1 rp q1 => by
    split at q1
    · rename_i p
      obtain ⟨v, rfl, rv⟩ := rp.one
      refine ⟨v, rfl, fun d nd => ?_⟩
      have e2 : Ext Φ1 H1 Φ1 (upd H1 d (.xd [(fld, v)])) := Ext.laid r1 nd
      exact q1 Φ1 _ C (some d) σ e2 (r1.laid nd) ((rs.ext e1).ext e2) T.gC (.inr ⟨d, [(fld, v)], rfl, (fun z => nomatch z), r1.fre nd, upd_same, rfl, v, [], rfl, rv.ext e2, rfl⟩)
    · exact q1.elim⟩
end
end X_part
end Ev
set_option maxHeartbeats 4000000
/-! PA: plain lemmas of no law: kinds, numbers as texts, lists, loops, statements. -/
namespace Ev
open PySem PySem.Spec PyProof.Rows L2
@[simp] theorem isi_non_tup : kitB "NoneType" "tuple" = some false := by decide +kernel
@[simp] theorem isi_bl_tup : kitB "bool" "tuple" = some false := by decide +kernel
@[simp] theorem isi_int_tup : kitB "int" "tuple" = some false := by decide +kernel
@[simp] theorem isi_str_tup : kitB "str" "tuple" = some false := by decide +kernel
@[simp] theorem isi_tup_tup : kitB "tuple" "tuple" = some true := by decide +kernel
@[simp] theorem isi_lst_tup : kitB "list" "tuple" = some false := by decide +kernel
@[simp] theorem isi_dct_tup : kitB "dict" "tuple" = some false := by decide +kernel
@[simp] theorem isi_non_str : kitB "NoneType" "str" = some false := by decide +kernel
@[simp] theorem isi_bl_str : kitB "bool" "str" = some false := by decide +kernel
@[simp] theorem isi_int_str : kitB "int" "str" = some false := by decide +kernel
@[simp] theorem isi_str_str : kitB "str" "str" = some true := by decide +kernel
@[simp] theorem isi_tup_str : kitB "tuple" "str" = some false := by decide +kernel
@[simp] theorem isi_lst_str : kitB "list" "str" = some false := by decide +kernel
@[simp] theorem isi_dct_str : kitB "dict" "str" = some false := by decide +kernel
@[simp] theorem isi_non_int : kitB "NoneType" "int" = some false := by decide +kernel
@[simp] theorem isi_bl_int : kitB "bool" "int" = some true := by decide +kernel
@[simp] theorem isi_int_int : kitB "int" "int" = some true := by decide +kernel
@[simp] theorem isi_str_int : kitB "str" "int" = some false := by decide +kernel
@[simp] theorem isi_tup_int : kitB "tuple" "int" = some false := by decide +kernel
@[simp] theorem isi_lst_int : kitB "list" "int" = some false := by decide +kernel
@[simp] theorem isi_dct_int : kitB "dict" "int" = some false := by decide +kernel
@[simp] theorem isi_non_bl : kitB "NoneType" "bool" = some false := by decide +kernel
@[simp] theorem isi_bl_bl : kitB "bool" "bool" = some true := by decide +kernel
@[simp] theorem isi_int_bl : kitB "int" "bool" = some false := by decide +kernel
@[simp] theorem isi_str_bl : kitB "str" "bool" = some false := by decide +kernel
@[simp] theorem isi_tup_bl : kitB "tuple" "bool" = some false := by decide +kernel
@[simp] theorem isi_lst_bl : kitB "list" "bool" = some false := by decide +kernel
@[simp] theorem isi_dct_bl : kitB "dict" "bool" = some false := by decide +kernel
def pk : PV → Bool
  | .non => true
  | .bl _ => true
  | .int _ => true
  | .str _ => true
  | .tup _ => true
  | .lst _ => true
  | .dct _ _ => true
  | _ => false
def isI : PV → Bool
  | .int _ => true
  | _ => false
def inIv (p : PV) (lo hi : Int) : Bool := match p with
  | .int i => decide (lo ≤ i) && decide (i ≤ hi)
  | _ => false
theorem fAll_bl {α : Type} (g : α → Bool) (xs : List α) (h : PH) : fAll [.lst (xs.map fun x => .bl (g x))] h = some (.bl (xs.all g), h) := by
  have e : (xs.map fun x => PV.bl (g x)) = (xs.map g).map PV.bl := by rw [List.map_map]; rfl
  simp only [fAll, asL, Option.bind, e, asBs_map, Option.map]
  rw [List.all_map]
  rfl
theorem len_tl (x : Str) : x.length = x.cps.toList.length := (Array.length_toList (xs := x.cps)).symm
theorem len_add (x y : Str) : (x ++ y).length = x.length + y.length := by
  rw [len_tl, len_tl, len_tl, PySem.W.KT.app_list, List.length_append]
def numS (i : Int) : Str := Str.ofString (toString i)
theorem num_len {i : Int} (h0 : 0 ≤ i) (h1 : i < 10 ^ 10) : (numS i).length ≤ 10 := by
  have l := PySem.W.KT.len_num h0 h1
  rw [len_tl]
  exact l
theorem log_ok {i : Int} (h0 : 0 ≤ i) (h1 : i < 10 ^ 10) : i.natAbs.log2 < 1920 := by
  have h2 : i.natAbs < 2 ^ 1920 := by
    have : i.natAbs < 10 ^ 10 := by omega
    exact Nat.lt_of_lt_of_le this (by decide)
  by_cases z : i.natAbs = 0
  · rw [z]; decide
  · exact (Nat.log2_lt z).mpr h2
theorem sum_le {α : Type} (f : α → Nat) (k : Nat) : ∀ (xs : List α), (∀ x ∈ xs, f x ≤ k) → (xs.map f).sum ≤ k * xs.length
  | [], _ => by simp
  | x :: xs, h => by
    have ih := sum_le f k xs fun y hy => h y (List.mem_cons_of_mem _ hy)
    have h1 := h x List.mem_cons_self
    rw [List.map_cons, List.sum_cons, List.length_cons, Nat.mul_add, Nat.mul_one]
    omega
def figs : List Nat := ("0123456789" : Str).cps.toList
def figW (w : Str) : Bool := decide (1 ≤ w.length) && decide (w.length ≤ 9) && w.cps.toList.all fun c => decide (c ∈ figs)
def lead (w : Str) : Bool := decide (1 < w.length) && decide (w.cps.toList.head? = some 48)
def numF (w : Str) : Option Int := if figW w && !lead w then some ((NumText.digitsVal w.cps.toList : Nat) : Int) else none
def oI_ : Option Int → PV
  | some i => .int i
  | none => .non
theorem figs_digits {l : List Nat} (h : (l.all fun c => decide (c ∈ figs)) = true) : NumText.AllDigits l := by
  intro c hc
  have := of_decide_eq_true (List.all_eq_true.mp h c hc)
  have hf : figs = [48, 49, 50, 51, 52, 53, 54, 55, 56, 57] := by decide +kernel
  rw [hf] at this
  simp at this
  omega
theorem int_figs {w : Str} (h : figW w = true) : PySem.intText? w = some ((NumText.digitsVal w.cps.toList : Nat) : Int) := by
  obtain ⟨h1, h3⟩ := Bool.and_eq_true_iff.mp h
  obtain ⟨h1, h2⟩ := Bool.and_eq_true_iff.mp h1
  have l1 := of_decide_eq_true h1
  have l2 := of_decide_eq_true h2
  refine PySem.intText_digits (figs_digits h3) (fun z => ?_) (by omega)
  rw [len_tl, z] at l1
  exact absurd l1 (by decide)
theorem first_sign (w : Str) (h : PH) (hw : 1 ≤ w.length) (hl : w.length ≤ 1000000) : ∃ c, w.cps.toList.head? = some c ∧ fIx (.str w) (.int 0) h = some (.str ⟨#[c]⟩, h) := by
  cases e : w.cps.toList with
  | nil => rw [len_tl, e] at hw; exact absurd hw (by decide)
  | cons c r =>
    refine ⟨c, rfl, ?_⟩
    simp [fIx, asQ, asL, asT, sizeLine_eq, atI, ixN, e]
    omega
theorem sign_eq (c : Nat) : decide ((⟨#[c]⟩ : Str) = "0") = decide (c = 48) := by
  have e : ("0" : Str) = ⟨#[48]⟩ := by decide +kernel
  rw [e]
  by_cases h : c = 48
  · simp [h]
  · simp [h]
theorem mem_joinL (S : List Nat) : ∀ (ps : List (List Nat)) (p : List Nat), p ∈ ps → p.length ≤ (TL.joinL S ps).length
  | [], _, h => by cases h
  | [q], p, h => by
    rw [List.mem_singleton.mp h]
    simp [TL.joinL]
  | q :: r :: ps, p, h => by
    have e : TL.joinL S (q :: r :: ps) = q ++ (S ++ TL.joinL S (r :: ps)) := by simp [TL.joinL]
    rw [e, List.length_append, List.length_append]
    rcases List.mem_cons.mp h with rfl | h
    · omega
    · have := mem_joinL S (r :: ps) p h
      omega
theorem split_len (x y : Str) : ∀ p ∈ Txt.split x y, p.length ≤ x.length := fun p hp => by
  have e := StrLaws.join_split x y
  have t : x.cps.toList = TL.joinL y.cps.toList ((Txt.split x y).map fun z => z.cps.toList) := by
    have := TL.tl_join y (Txt.split x y)
    rw [e] at this
    exact this
  rw [len_tl, len_tl, t]
  exact mem_joinL _ _ _ (List.mem_map.mpr ⟨p, hp, rfl⟩)
theorem split_sp {l : Str} (hl : l.length ≤ 1000000) (h : PH) : fSplit false (.str l) [.str " "] h = some (.lst ((Txt.split l " ").map PV.str), h) := by
  have s1 : ((" " : Str).length == 0) = false := by decide
  have s2 : l.length + 2 ≤ sizeLine := by rw [sizeLine_eq]; omega
  unfold fSplit
  simp only [s1, s2, and_self, if_true, ev_newL_f]
theorem split_nl {l : Str} (hl : l.length ≤ 1000000) (h : PH) : fSplit false (.str l) [.str "\n"] h = some (.lst ((Txt.split l "\n").map PV.str), h) := by
  have s1 : (("\n" : Str).length == 0) = false := by decide
  have s2 : l.length + 2 ≤ sizeLine := by rw [sizeLine_eq]; omega
  unfold fSplit
  simp only [s1, s2, and_self, if_true, ev_newL_f]
theorem ix0 (a : PV) (r : List PV) (h : PH) : fIx (.lst (a :: r)) (.int 0) h = some (a, h) := by simp [fIx, asQ, asL, atI, ixN]
theorem ix1 (a b : PV) (r : List PV) (h : PH) : fIx (.lst (a :: b :: r)) (.int 1) h = some (b, h) := by
  have e : (1 : Int) < (r.length : Int) + 1 + 1 := by omega
  simp [fIx, asQ, asL, atI, ixN, e]
def bagO (cs : List Int) (a b t : Int) : PO := .lst [.lst (cs.map PV.int), .int a, .int b, .int t]
def mix1 (c t : Int) : Int := (c % 2147483647 + 7919 * t + 1) * 48271 % 2147483647
def mix2 (n : Int) : Int := n * (n / 1009 + 69621) % 2147483647
def mix3 (n : Int) : Int := n * (n / 2003 + 40692) % 2147483399 / 16
theorem mix_lt {n : Int} : 0 ≤ n % 2147483647 ∧ n % 2147483647 < 2147483647 := ⟨Int.emod_nonneg _ (by decide), Int.emod_lt_of_pos _ (by decide)⟩
theorem cMul_l {i j : Int} (h : -(2 ^ 64) < i ∧ i < 2 ^ 64) : cMul i j = true := decide_eq_true (Or.inl h)
theorem cMul_r {i j : Int} (h : -(2 ^ 64) < j ∧ j < 2 ^ 64) : cMul i j = true := decide_eq_true (Or.inr h)
theorem cPos_ok {i j : Int} (h : 0 < j) : cPos i j = true := decide_eq_true h
theorem cDiv_ok {i j : Int} (h : 0 < j) (h2 : j < 1073741824) : cDiv i j = true := decide_eq_true ⟨h, h2⟩
@[simp] theorem fAdd_int (f : Bool) (i j : Int) (h : PH) : fAdd f (.int i) (.int j) h = some (.int (i + j), h) := rfl
@[simp] theorem fInt_int (i : Int) (h : PH) : fInt [.int i] h = some (.int i, h) := rfl
theorem cut63 {α : Type} (xs : List α) (h : xs.length ≤ 63) : cutG xs none (some 63) = xs := by
  refine cut_whole ⟨HT.sIx_none _ _, ?_⟩
  have := HT.sIx_nat xs.length xs.length 63
  rw [show (some (63 : Int)) = some ((63 : Nat) : Int) from rfl, this]
  omega
theorem nrs_ints : ∀ cs : List Int, nrs (cs.map PV.int) = true
  | [] => rfl
  | c :: cs => by
    simp only [List.map_cons, nrs, nr, Bool.true_and]
    exact nrs_ints cs
theorem cutG_map {α β : Type} (f : α → β) (xs : List α) (lo hi : Option Int) : cutG (xs.map f) lo hi = (cutG xs lo hi).map f := by
  unfold cutG
  rw [List.length_map, List.map_take, List.map_drop]
theorem cutG_all {α : Type} (p : α → Bool) (xs : List α) (lo hi : Option Int) (h : xs.all p = true) : (cutG xs lo hi).all p = true := by
  refine List.all_eq_true.mpr fun x hx => List.all_eq_true.mp h x ?_
  exact List.mem_of_mem_drop (List.mem_of_mem_take hx)
theorem cutG_len {α : Type} (xs : List α) (k : Nat) : (cutG xs none (some (k : Int))).length ≤ k := by
  unfold cutG
  rw [List.length_take, HT.sIx_nat]
  omega
theorem cut_init {α : Type} (xs : List α) : cutG xs none (some (-1)) = xs.dropLast := by
  unfold cutG
  rw [HT.sIx_none, List.drop_zero, Nat.sub_zero, List.dropLast_eq_take]
  congr 1
  unfold HT.sIx
  simp
  omega
theorem ix_last (xs : List PV) (x : PV) (h : PH) : fIx (.lst (xs ++ [x])) (.int (-1)) h = some (x, h) := by
  simp only [fIx, asQ, asL]
  rw [show atI (xs ++ [x]) (-1) = some x from atI_last _ _]
  rfl
theorem split_ne (x y : Str) : Txt.split x y ≠ [] := by
  unfold Txt.split
  split
  · simp
  · split
    · simp
    · rw [StrLaws.partsBetween_eq]
      obtain ⟨p, r, e⟩ := StrLaws.partsFrom_ne x y.length 0 (Builtin.Str.occurrences x y 0 x.length (x.length + 1))
      rw [e]
      simp
theorem app_get (h : PH) (o : PO) : (h ++ [o])[h.length]? = some o := by simp
theorem app_set (h : PH) (o o' : PO) : (h ++ [o]).set h.length o' = h ++ [o'] := by simp
def sameOk : Nat → PV → Bool
  | 0, _ => false
  | n + 1, .tup xs => xs.all (sameOk n) && decide (xs.length ≤ 1000000)
  | _ + 1, .str _ => true
  | _ + 1, .int _ => true
  | _ + 1, _ => false
theorem ix_tup (xs : List PV) (k : Nat) (hk : k < xs.length) (h : PH) : fIx (.tup xs) (.int (k : Int)) h = some (xs[k], h) := by
  have h0 : (0 : Int) ≤ k := by omega
  have h1 : (k : Int) < xs.length := by omega
  simp [fIx, asQ, asL, asT, atI, ixN, h1, hk]
theorem ix_lst (xs : List PV) (k : Nat) (hk : k < xs.length) (h : PH) : fIx (.lst xs) (.int (k : Int)) h = some (xs[k], h) := by
  have h0 : (0 : Int) ≤ k := by omega
  have h1 : (k : Int) < xs.length := by omega
  simp [fIx, asQ, asL, atI, ixN, h1, hk]
theorem range1_int (v : Int) (h0 : 0 ≤ v) (h1 : v < 1000000000) (h : PH) : itRange1 [.int v] h = .ok ⟨(List.range v.toNat).map fun k => .int (k : Nat), fun _ => true⟩ h := by
  have rg : -(2 ^ 62 : Int) ≤ v ∧ v < 2 ^ 62 := ⟨by omega, by omega⟩
  have e0 : (fun k : Nat => PV.int (0 + (k : Int))) = fun k : Nat => PV.int (k : Int) := by funext k; rw [Int.zero_add]
  rw [← e0]
  unfold itRange1
  exact if_pos rg
theorem range1_ok (n : Nat) (hn : n < 1000000000) (h : PH) : itRange1 [.int (n : Int)] h = .ok ⟨(List.range n).map fun k => .int (k : Nat), fun _ => true⟩ h := by
  have e := range1_int (n : Int) (by omega) (by omega) h
  rw [Int.toNat_natCast] at e
  exact e
theorem mItA_eq {f : List PV → PH → Out Its} {as : AM} {ρ : Ro} {h h1 : PH} {ps : List PV} (e : as ρ h = .ok ps h1) : mItA f as ρ h = f ps h1 := by
  unfold mItA
  rw [e]
  rfl
theorem seq_nx {a b : SM} {ρ ρ1 : Ro} {h h1 : PH} (e : a ρ h = .nx ρ1 h1) : mSeq a b ρ h = b ρ1 h1 := by
  rw [ev_mSeq, e]
theorem seq_rt {a b : SM} {ρ : Ro} {v : PV} {h h1 : PH} (e : a ρ h = .rt v h1) : mSeq a b ρ h = .rt v h1 := by
  rw [ev_mSeq, e]
theorem seq_ex {a b : SM} {ρ ρ1 : Ro} {h h1 : PH} {c : Str} {fs : List Str} {xs : List PV} (e : a ρ h = .ex c fs xs ρ1 h1) : mSeq a b ρ h = .ex c fs xs ρ1 h1 := by
  rw [ev_mSeq, e]
theorem for_eq {mi : IMm} {t : Tg} {body : SM} {ρ : Ro} {h h1 : PH} {s : Its} {o : SO} (e : mi ρ h = .ok s h1) (k : forL s.chk t body s.items ρ h1 = o) : mFor mi t body ρ h = o := by
  unfold mFor
  rw [e]
  exact k
theorem def_rt {n sl : Nat} {frz : Bool} {body : SM} {ps : List PV} {h h1 : PH} {v : PV} {o : Out PV} (hl : ps.length = n) (hb : body (ps.map some ++ List.replicate (sl - n) none) h = .rt v h1) (ho : outF frz h.length v h1 = o) : mDef n sl frz body ps h = o :=
  mDef_run hl (by rw [hb]; exact ho)
theorem def_nx {n sl : Nat} {frz : Bool} {body : SM} {ps : List PV} {h h1 : PH} {ρ : Ro} {o : Out PV} (hl : ps.length = n) (hb : body (ps.map some ++ List.replicate (sl - n) none) h = .nx ρ h1) (ho : outF frz h.length .non h1 = o) : mDef n sl frz body ps h = o :=
  mDef_run hl (by rw [hb]; exact ho)
theorem def_ex {n sl : Nat} {frz : Bool} {body : SM} {ps : List PV} {h h1 : PH} {c : Str} {fs : List Str} {xs : List PV} {ρ : Ro} {o : Out PV} (hl : ps.length = n) (hb : body (ps.map some ++ List.replicate (sl - n) none) h = .ex c fs xs ρ h1) (ho : outX frz h.length c fs xs h1 = o) : mDef n sl frz body ps h = o :=
  mDef_run hl (by rw [hb]; exact ho)
theorem forL_inv {chk : PH → Bool} {t : Tg} {body : SM} (Inv : Ro → PH → Prop) (hc : ∀ ρ h, Inv ρ h → chk h = true) : ∀ (xs : List PV) (ρ : Ro) (h : PH), Inv ρ h →
    (∀ x ∈ xs, ∀ ρ h, Inv ρ h → ∃ ρ1 ρ2 h2, asg t x ρ = some ρ1 ∧ body ρ1 h = .nx ρ2 h2 ∧ Inv ρ2 h2) → ∃ ρ' h', forL chk t body xs ρ h = .nx ρ' h' ∧ Inv ρ' h'
  | [], ρ, h, hi, _ => ⟨ρ, h, by simp [forL, hc ρ h hi], hi⟩
  | x :: xs, ρ, h, hi, hx => by
    obtain ⟨ρ1, ρ2, h2, e1, e2, hi2⟩ := hx x List.mem_cons_self ρ h hi
    obtain ⟨ρ', h', e, hi'⟩ := forL_inv Inv hc xs ρ2 h2 hi2 fun y hy => hx y (List.mem_cons_of_mem _ hy)
    exact ⟨ρ', h', by simp only [forL, hc ρ h hi, if_true, e1, e2]; exact e, hi'⟩
theorem ix_in (xs : List PV) (v : Int) (h0 : 0 ≤ v) (h1 : v < xs.length) (h : PH) : ∃ p ∈ xs, fIx (.lst xs) (.int v) h = some (p, h) := by
  have hk : v.toNat < xs.length := by omega
  refine ⟨xs[v.toNat], List.getElem_mem hk, ?_⟩
  have e := ix_lst xs v.toNat hk h
  rw [show ((v.toNat : Nat) : Int) = v from by omega] at e
  exact e
theorem ix_sign (w : Str) (v : Int) (h0 : 0 ≤ v) (h1 : v < w.length) (hl : w.length ≤ 1000000) (h : PH) : ∃ z : Str, z.length = 1 ∧ fIx (.str w) (.int v) h = some (.str z, h) := by
  have hk : v.toNat < w.cps.toList.length := by rw [← len_tl]; omega
  have h1' : v < (w.cps.toList.length : Int) := by rw [← len_tl]; exact h1
  refine ⟨⟨#[w.cps.toList[v.toNat]]⟩, rfl, ?_⟩
  have hz : w.length ≤ 16777216 := by omega
  have ea : atI w.cps.toList v = some w.cps.toList[v.toNat] := by
    unfold atI ixN
    rw [if_pos h0, if_pos h1']
    exact List.getElem?_eq_getElem hk
  simp only [fIx, asQ, asL, asT, sizeLine_eq, hz, if_true, ea, Option.map]
theorem addL_ok (xs ys : List PV) (hl : xs.length + ys.length ≤ 3000000) (h : PH) : fAdd false (.lst xs) (.lst ys) h = some (.lst (xs ++ ys), h) := by
  have hz : xs.length + ys.length ≤ 16777216 := by omega
  simp [fAdd, orF, fI, fAddS, fAddT, asT, fAddL, asM, sizeLine_eq, hz]
theorem addT_ok (xs ys : List PV) (hl : xs.length + ys.length ≤ 3000000) (h : PH) : fAdd false (.tup xs) (.tup ys) h = some (.tup (xs ++ ys), h) := by
  have hz : xs.length + ys.length ≤ 16777216 := by omega
  simp [fAdd, orF, fI, fAddS, fAddT, asT, sizeLine_eq, hz]
theorem addS_ok (x y : Str) (hl : x.length + y.length ≤ 3000000) (h : PH) : fAdd false (.str x) (.str y) h = some (.str (x ++ y), h) := by
  have hz : x.length + y.length ≤ 16777216 := by omega
  simp [fAdd, orF, fI, fAddS, sizeLine_eq, hz]
theorem cutG_mem {α : Type} {xs : List α} {lo hi : Option Int} {x : α} (h : x ∈ cutG xs lo hi) : x ∈ xs := List.mem_of_mem_drop (List.mem_of_mem_take h)
theorem cutG_le {α : Type} (xs : List α) (lo hi : Option Int) : (cutG xs lo hi).length ≤ xs.length := by
  unfold cutG
  rw [List.length_take, List.length_drop]
  omega
def wide (ps : List Str) : Nat := (ps.map fun p => p.length + 1).sum
theorem wide_cons (p : Str) (ps : List Str) : wide (p :: ps) = p.length + 1 + wide ps := by simp [wide]
theorem wide_app (ps qs : List Str) : wide (ps ++ qs) = wide ps + wide qs := by simp [wide]
theorem wide_len (ps : List Str) : ps.length ≤ wide ps := by
  induction ps with
  | nil => exact Nat.le_refl _
  | cons p ps ih => rw [wide_cons, List.length_cons]; omega
theorem wide_sub (ps : List Str) (lo hi : Option Int) : wide (cutG ps lo hi) ≤ wide ps := by
  have td : ∀ (n : Nat) (xs : List Str), wide (xs.drop n) ≤ wide xs := fun n xs => by
    have := congrArg wide (List.take_append_drop n xs)
    rw [wide_app] at this
    omega
  have tt : ∀ (n : Nat) (xs : List Str), wide (xs.take n) ≤ wide xs := fun n xs => by
    have := congrArg wide (List.take_append_drop n xs)
    rw [wide_app] at this
    omega
  unfold cutG
  exact Nat.le_trans (tt _ _) (td _ _)
theorem join_wide (y : Str) (hy : y.length = 1) : ∀ ps : List Str, ps ≠ [] → (Txt.join y ps).length + 1 = wide ps
  | [], h => absurd rfl h
  | [p], _ => by
    rw [TL.join_eq]
    show p.length + 1 = _
    simp [wide]
  | p :: z :: r, _ => by
    have ih := join_wide y hy (z :: r) (by simp)
    rw [TL.join_eq] at ih ⊢
    have e : Str.join y (p :: z :: r) = p ++ y ++ Str.join y (z :: r) := rfl
    rw [e, len_add, len_add, wide_cons, ← ih, hy]
    omega
theorem split_wide (s y : Str) (hy : y.length = 1) : wide (Txt.split s y) = s.length + 1 := by
  have e := join_wide y hy _ (split_ne s y)
  have e2 : Txt.join y (Txt.split s y) = s := by rw [TL.join_eq]; exact StrLaws.join_split s y
  rw [e2] at e
  exact e.symm
theorem nl_len : ("\n" : Str).length = 1 := rfl
theorem join_ok (ps : List Str) (hw : wide ps ≤ 3000000) (h : PH) : fJoin (.str "\n") [.lst (ps.map PV.str)] h = some (.str (Txt.join "\n" ps), h) ∧ (Txt.join "\n" ps).length ≤ wide ps := by
  have e : (ps.map (·.length)).sum + ps.length * ("\n" : Str).length = wide ps := by
    rw [nl_len]
    induction ps with
    | nil => rfl
    | cons p ps ih =>
      rw [wide_cons] at hw ⊢
      have := ih (by omega)
      simp
      omega
  refine ⟨?_, ?_⟩
  · have hz : wide ps ≤ 16777216 := by omega
    simp only [fJoin, asQ, asL, Option.bind, asSs_map, e, hz, if_true]
  · cases ps with
    | nil => exact Nat.le_refl 0
    | cons p ps =>
      have := join_wide "\n" nl_len (p :: ps) (by simp)
      omega
theorem sl_str_ok (s : Str) (hs : s.length ≤ 1000000) (lo hi : Option Int) (h : PH) : fSl false (.str s) lo hi h = some (.str (cutS s lo hi), h) := by
  have hz : s.length ≤ 16777216 := by omega
  simp only [fSl, asL, sizeLine_eq, hz, if_true]
theorem sl_lst (xs : List PV) (lo hi : Option Int) (h : PH) : fSl false (.lst xs) lo hi h = some (.lst (cutG xs lo hi), h) := by
  simp only [fSl, asL, ev_newL_f]
theorem numS_tl (n : Nat) : TL.tl (numS (n : Int)) = TL.numL n := TL.tl_num n
theorem numL_head : ∀ n : Nat, 10 ≤ n → (TL.numL n).head? ≠ some 48 := by
  intro n
  induction n using Nat.strongRecOn with
  | _ n ih =>
    intro hn
    rw [TL.numL_step hn]
    by_cases h : n / 10 < 10
    · rw [TL.numL_lt h]
      simp
      omega
    · have := ih (n / 10) (by omega) (by omega)
      cases e : TL.numL (n / 10) with
      | nil => exact absurd e (TL.numL_ne _)
      | cons c r => rw [e] at this; simpa using this
theorem figs_eq : figs = [48, 49, 50, 51, 52, 53, 54, 55, 56, 57] := by decide +kernel
theorem digits_figs {l : List Nat} (h : NumText.AllDigits l) : (l.all fun c => decide (c ∈ figs)) = true := by
  refine List.all_eq_true.mpr fun c hc => decide_eq_true ?_
  have := h c hc
  rw [figs_eq]
  simp
  omega
theorem numF_numS (n : Nat) (h : n < 10 ^ 9) : numF (numS (n : Int)) = some (n : Int) := by
  have t : (numS (n : Int)).cps.toList = TL.numL n := numS_tl n
  have l : (numS (n : Int)).length = (TL.numL n).length := by rw [len_tl, t]
  have l1 : 1 ≤ (TL.numL n).length := List.length_pos_iff.mpr (TL.numL_ne n)
  have l2 : (TL.numL n).length ≤ 9 := TL.numL_len (by decide) h
  have fw : figW (numS (n : Int)) = true := by
    unfold figW
    rw [l, t, digits_figs (TL.numL_digits n)]
    simp [l1, l2]
  have nl : lead (numS (n : Int)) = false := by
    unfold lead
    rw [l, t]
    by_cases hn : n < 10
    · rw [TL.numL_lt hn]
      simp
    · have := numL_head n (by omega)
      simp [this]
  unfold numF
  rw [fw, nl, t, TL.numL_val]
  rfl
theorem digitsVal_snoc (l : List Nat) (c : Nat) : NumText.digitsVal (l ++ [c]) = NumText.digitsVal l * 10 + (c - 48) := by
  unfold NumText.digitsVal
  rw [List.foldl_append]
  rfl
theorem digits_back (l : List Nat) : NumText.AllDigits l → l ≠ [] → (l.length = 1 ∨ l.head? ≠ some 48) → TL.numL (NumText.digitsVal l) = l ∧ (l.head? ≠ some 48 → 0 < NumText.digitsVal l) := by
  induction h : l.length generalizing l with
  | zero => intro _ hn; exact absurd (List.length_eq_zero_iff.mp h) hn
  | succ n ih =>
    intro hd hn hh
    obtain ⟨r, c, rfl⟩ : ∃ r c, l = r ++ [c] := ⟨_, _, (List.dropLast_concat_getLast hn).symm⟩
    have hc : 48 ≤ c ∧ c ≤ 57 := hd c (by simp)
    have hr : NumText.AllDigits r := fun x hx => hd x (List.mem_append_left _ hx)
    rw [digitsVal_snoc]
    cases r with
    | nil =>
      have e0 : NumText.digitsVal [] = 0 := rfl
      rw [e0, Nat.zero_mul, Nat.zero_add, TL.numL_lt (by omega)]
      refine ⟨by simp; omega, fun h48 => ?_⟩
      simp at h48
      omega
    | cons d r =>
      have hl : (d :: r).length = n := by simp at h ⊢; omega
      have h48 : (d :: r).head? ≠ some 48 := by
        rcases hh with hh | hh
        · simp at hl; omega
        · simpa using hh
      obtain ⟨i1, i2⟩ := ih (d :: r) hl hr (by simp) (.inr h48)
      have pos := i2 h48
      refine ⟨?_, fun _ => by omega⟩
      generalize hv : NumText.digitsVal (d :: r) = v at *
      rw [TL.numL_step (by omega), show (v * 10 + (c - 48)) / 10 = v from by omega, i1, show 48 + (v * 10 + (c - 48)) % 10 = c from by omega]
theorem numF_back {w : Str} {i : Int} (h : numF w = some i) : numS i = w ∧ 0 ≤ i ∧ i < 10 ^ 9 := by
  unfold numF at h
  split at h
  · rename_i hc
    obtain ⟨h1, h2⟩ := Bool.and_eq_true_iff.mp hc
    cases h
    obtain ⟨f1, f3⟩ := Bool.and_eq_true_iff.mp h1
    obtain ⟨f1, f2⟩ := Bool.and_eq_true_iff.mp f1
    have l1 := of_decide_eq_true f1
    have l2 := of_decide_eq_true f2
    have hd := figs_digits f3
    have hne : w.cps.toList ≠ [] := fun z => by
      rw [len_tl, z] at l1
      exact absurd l1 (by decide)
    have hh : w.cps.toList.length = 1 ∨ w.cps.toList.head? ≠ some 48 := by
      by_cases z : w.cps.toList.head? = some 48
      · left
        rw [← len_tl]
        have : ¬ 1 < w.length := fun g => by simp [lead, g, z] at h2
        omega
      · exact .inr z
    have b := (digits_back _ hd hne hh).1
    have e : numS ((NumText.digitsVal w.cps.toList : Nat) : Int) = w := TL.ext_tl (by rw [numS_tl]; exact b)
    refine ⟨e, Int.natCast_nonneg _, ?_⟩
    have hl : (TL.numL (NumText.digitsVal w.cps.toList)).length ≤ 9 := by rw [b, ← len_tl]; exact l2
    have up : ∀ (l : List Nat), NumText.AllDigits l → NumText.digitsVal l < 10 ^ l.length := by
      intro l
      induction hn : l.length generalizing l with
      | zero => intro _; rw [List.length_eq_zero_iff.mp hn]; decide
      | succ n ih =>
        intro hd
        have hne : l ≠ [] := fun z => by rw [z] at hn; cases hn
        obtain ⟨r, c, rfl⟩ : ∃ r c, l = r ++ [c] := ⟨_, _, (List.dropLast_concat_getLast hne).symm⟩
        have hc : 48 ≤ c ∧ c ≤ 57 := hd c (by simp)
        have := ih r (by simpa using hn) fun x hx => hd x (List.mem_append_left _ hx)
        rw [digitsVal_snoc, Nat.pow_succ]
        omega
    have u := up _ hd
    have : (10 : Nat) ^ w.cps.toList.length ≤ 10 ^ 9 := Nat.pow_le_pow_right (by decide) (by rw [← len_tl]; exact l2)
    have u2 := Nat.lt_of_lt_of_le u this
    have u3 : ((NumText.digitsVal w.cps.toList : Nat) : Int) < ((10 ^ 9 : Nat) : Int) := Int.ofNat_lt.mpr u2
    exact u3
  · cases h
theorem sp_tl : TL.tl (" " : Str) = [32] := by decide +kernel
theorem nl_tl : TL.tl ("\n" : Str) = [10] := by decide +kernel
theorem num_free (i : Int) (h : 0 ≤ i) : (32 : Nat) ∉ TL.tl (numS i) ∧ (10 : Nat) ∉ TL.tl (numS i) := by
  obtain ⟨n, rfl⟩ := Int.eq_ofNat_of_zero_le h
  rw [numS_tl]
  exact ⟨TL.numL_free (by decide), TL.numL_free (by decide)⟩
theorem all_imp {α : Type} {p q : α → Bool} (i : ∀ x, p x = true → q x = true) {xs : List α} (h : xs.all p = true) : xs.all q = true :=
  List.all_eq_true.mpr fun x hx => i x (List.all_eq_true.mp h x hx)
theorem forL_invN {chk : PH → Bool} {t : Tg} {body : SM} (Inv : Nat → Ro → PH → Prop) (hc : ∀ n ρ h, Inv n ρ h → chk h = true) : ∀ (xs : List PV) (ρ : Ro) (h : PH), Inv xs.length ρ h →
    (∀ x ∈ xs, ∀ n ρ h, n < xs.length → Inv (n + 1) ρ h → ∃ ρ1 ρ2 h2, asg t x ρ = some ρ1 ∧ body ρ1 h = .nx ρ2 h2 ∧ Inv n ρ2 h2) → ∃ ρ' h', forL chk t body xs ρ h = .nx ρ' h' ∧ Inv 0 ρ' h'
  | [], ρ, h, hi, _ => ⟨ρ, h, by simp [forL, hc _ ρ h hi], hi⟩
  | x :: xs, ρ, h, hi, hx => by
    obtain ⟨ρ1, ρ2, h2, e1, e2, hi2⟩ := hx x List.mem_cons_self xs.length ρ h (by simp) hi
    obtain ⟨ρ', h', e, hi'⟩ := forL_invN Inv hc xs ρ2 h2 hi2 fun y hy n ρ h hn => hx y (List.mem_cons_of_mem _ hy) n ρ h (by rw [List.length_cons]; omega)
    exact ⟨ρ', h', by simp only [forL, hc _ ρ h hi, if_true, e1, e2]; exact e, hi'⟩
theorem tix0 (a : PV) (r : List PV) (h : PH) : fIx (.tup (a :: r)) (.int 0) h = some (a, h) := ix_tup (a :: r) 0 (by simp) h
theorem tix1 (a b : PV) (r : List PV) (h : PH) : fIx (.tup (a :: b :: r)) (.int 1) h = some (b, h) := ix_tup (a :: b :: r) 1 (by simp) h
end Ev
set_option maxHeartbeats 4000000
namespace Ev
open PySem PySem.Spec PyProof.Rows L2
noncomputable def b_is_integer : SM := (mRet (mAnd (mCallB fIsi (mCons (mV 0) (mCons (mC (.ty "int")) mNil))) (mNot (mCallB fIsi (mCons (mV 0) (mCons (mC (.ty "bool")) mNil))))))
noncomputable def m_is_integer : DF := mDef 1 1 true b_is_integer
noncomputable def b_is_within : SM := (mRet (mAnd (mCall m_is_integer (mCons (mV 0) mNil)) (mCh fLe fLe (mV 1) (mV 0) (mV 2))))
noncomputable def m_is_within : DF := mDef 3 3 true b_is_within
noncomputable def b_is_pair : SM := (mRet (mAnd (mCallB fIsi (mCons (mV 0) (mCons (mC (.ty "tuple")) mNil))) (mBin fEq (mCallB fLen (mCons (mV 0) mNil)) (mC (.int 2)))))
noncomputable def m_is_pair : DF := mDef 1 1 true b_is_pair
noncomputable def b_is_prime : SM := (mSeq (mIfS (tNot_ (tB_ (mCall m_is_within (mCons (mV 0) (mCons (mC (.int 2)) (mCons (mC (.int 251)) mNil)))))) (mRet (mC (.bl false))) mPass)
  (mRet (mCallB fAll (mCons (mLc false [1] (mItA itRange2 (mCons (mC (.int 2)) (mCons (mV 0) mNil))) (.nm 1) tYes_ (mBin fNe (mBin fModI (mV 0) (mV 1)) (mC (.int 0)))) mNil))))
noncomputable def m_is_prime : DF := mDef 1 2 true b_is_prime
noncomputable def b_is_sum : SM := (mSeq (mIfS (tOr_ (tNot_ (tB_ (mCallB fIsi (mCons (mV 1) (mCons (mC (.ty "tuple")) mNil))))) (tNot_ (tB_ (mCh fLe fLe (mC (.int 1)) (mCallB fLen (mCons (mV 1) mNil)) (mC (.int 10)))))) (mRet (mC (.bl false))) mPass)
  (mRet (mAnd (mCallB fAll (mCons (mLc false [2] (mIt (mV 1)) (.nm 2) tYes_ (mCall m_is_within (mCons (mV 2) (mCons (mC (.int 0)) (mCons (mBin fSubI (mV 0) (mC (.int 1))) mNil))))) mNil)) (mCallB fAny (mCons (mLc false [2] (mIt (mV 1)) (.nm 2) tYes_ (mBin fNe (mV 2) (mC (.int 0)))) mNil)))))
noncomputable def m_is_sum : DF := mDef 2 3 true b_is_sum
noncomputable def b_is_piece : SM := (mRet (mAnd (mCall m_is_pair (mCons (mV 2) mNil)) (mAnd (mCall m_is_sum (mCons (mV 0) (mCons (mBin fIx (mV 2) (mC (.int 0))) mNil))) (mAnd (mBin fEq (mCallB fLen (mCons (mBin fIx (mV 2) (mC (.int 0))) mNil)) (mV 1)) (mCall m_is_within (mCons (mBin fIx (mV 2) (mC (.int 1))) (mCons (mC (.int 1)) (mCons (mC (.int 1000000)) mNil))))))))
noncomputable def m_is_piece : DF := mDef 3 3 true b_is_piece
noncomputable def b_Web___init__ : SM := (mSeq (mIfS (tNot_ (tB_ (mCall m_is_prime (mCons (mV 1) mNil)))) (X_part.mRaise "BadWeb" (mCons (mC (.str "prime")) mNil)) mPass)
  (mSeq (mIfS (tNot_ (tB_ (mCall m_is_within (mCons (mV 2) (mCons (mC (.int 1)) (mCons (mC (.int 10)) mNil)))))) (X_part.mRaise "BadWeb" (mCons (mC (.str "many")) mNil)) mPass)
  (mSeq (mIfS (tOr_ (tNot_ (tB_ (mCallB fIsi (mCons (mV 3) (mCons (mC (.ty "tuple")) mNil))))) (tB_ (mBin fGt (mCallB fLen (mCons (mV 3) mNil)) (mC (.int 40))))) (X_part.mRaise "BadWeb" (mCons (mC (.str "pieces")) mNil)) mPass)
  (mSeq (mFor (mItA itEnum2 (mCons (mV 3) mNil)) (.tp [(.nm 4), (.nm 5)]) (mIfS (tNot_ (tB_ (mCall m_is_piece (mCons (mV 1) (mCons (mV 2) (mCons (mV 5) mNil)))))) (X_part.mRaise "BadWeb" (mCons (mV 4) mNil)) mPass))
  (mSeq (mSetA "Web" "prime" (mV 0) (mV 1))
  (mSeq (mSetA "Web" "many" (mV 0) (mV 2))
  (mSetA "Web" "pieces" (mV 0) (mV 3))))))))
noncomputable def m_Web___init__ : DF := mDef 4 6 true b_Web___init__
noncomputable def b_Web___eq__ : SM := (mSeq (mIfS (tNot_ (tB_ (mCallB (fIsC "Web") (mCons (mV 1) (mCons (mC (.gl "Web")) mNil))))) (mRet (mC (.bl false))) mPass)
  (mRet (mBin fEq (mTup (mCons (mAttr "Web" "prime" (mV 0)) (mCons (mAttr "Web" "many" (mV 0)) (mCons (mAttr "Web" "pieces" (mV 0)) mNil)))) (mTup (mCons (mAttr "Web" "prime" (mV 1)) (mCons (mAttr "Web" "many" (mV 1)) (mCons (mAttr "Web" "pieces" (mV 1)) mNil)))))))
noncomputable def m_Web___eq__ : DF := mDef 2 2 true b_Web___eq__
noncomputable def b_number_in : SM := (mSeq (mIfS (tOr_ (tNot_ (tB_ (mCh fLe fLe (mC (.int 1)) (mCallB fLen (mCons (mV 0) mNil)) (mC (.int 9))))) (tNot_ (tB_ (mCallB fAll (mCons (mLc false [1] (mIt (mV 0)) (.nm 1) tYes_ (mBin (fIn2 false) (mV 1) (mC (.str "0123456789")))) mNil))))) (mRet (mC .non)) mPass)
  (mRet (mIf (tAnd_ (tB_ (mBin fGt (mCallB fLen (mCons (mV 0) mNil)) (mC (.int 1)))) (tB_ (mBin fEq (mBin fIx (mV 0) (mC (.int 0))) (mC (.str "0"))))) (mC .non) (mCallB fInt (mCons (mV 0) mNil)))))
noncomputable def m_number_in : DF := mDef 1 2 true b_number_in
noncomputable def b_numbers_in : SM := (mSeq (mAsg (.nm 1) (mCallB fTuple (mCons (mLc false [2] (mIt (mMt "str" (fSplit false) (mV 0) (mCons (mC (.str ",")) mNil))) (.nm 2) tYes_ (mCall m_number_in (mCons (mV 2) mNil))) mNil)))
  (mRet (mIf (tB_ (mBin (fIn2 false) (mC .non) (mV 1))) (mC .non) (mV 1))))
noncomputable def m_numbers_in : DF := mDef 1 3 true b_numbers_in
noncomputable def b_web_text : SM := (mSeq (mAsg (.nm 1) (mLst true (mCons (mBin (fAdd false) (mBin (fAdd false) (mBin (fAdd false) (mC (.str "web ")) (mCallB fStr (mCons (mAttr "Web" "prime" (mV 0)) mNil))) (mC (.str " "))) (mCallB fStr (mCons (mAttr "Web" "many" (mV 0)) mNil))) mNil)))
  (mSeq (mFor (mIt (mAttr "Web" "pieces" (mV 0))) (.tp [(.nm 2), (.nm 3)]) (mExpr (mMt "list" fAppend (mV 1) (mCons (mBin (fAdd false) (mBin (fAdd false) (mBin (fAdd false) (mC (.str "piece ")) (mCallB fStr (mCons (mV 3) mNil))) (mC (.str " "))) (mMt "str" fJoin (mC (.str ",")) (mCons (mLc false [5] (mIt (mV 2)) (.nm 5) tYes_ (mCallB fStr (mCons (mV 5) mNil))) mNil))) mNil))))
  (mRet (mMt "str" fJoin (mC (.str "")) (mCons (mLc false [4] (mIt (mV 1)) (.nm 4) tYes_ (mBin (fAdd false) (mV 4) (mC (.str "\n")))) mNil)))))
noncomputable def m_web_text : DF := mDef 1 6 true b_web_text
noncomputable def b_numbers_behind : SM := (mSeq (mAsg (.nm 3) (mMt "str" (fSplit false) (mV 0) (mCons (mC (.str " ")) mNil)))
  (mSeq (mIfS (tOr_ (tB_ (mBin fNe (mCallB fLen (mCons (mV 3) mNil)) (mC (.int 3)))) (tB_ (mBin fNe (mBin fIx (mV 3) (mC (.int 0))) (mV 1)))) (mRet (mC .non)) mPass)
  (mSeq (mAsg (.nm 4) (mLst false (mCons (mCall m_number_in (mCons (mBin fIx (mV 3) (mC (.int 1))) mNil)) (mCons (mIf (tB_ (mBin fEq (mV 2) (mC (.int 1)))) (mCall m_number_in (mCons (mBin fIx (mV 3) (mC (.int 2))) mNil)) (mCall m_numbers_in (mCons (mBin fIx (mV 3) (mC (.int 2))) mNil))) mNil))))
  (mRet (mIf (tB_ (mBin (fIn2 false) (mC .non) (mV 4))) (mC .non) (mV 4))))))
noncomputable def m_numbers_behind : DF := mDef 3 5 true b_numbers_behind
noncomputable def b_lines_in : SM := (mSeq (mIfS (tNot_ (tB_ (mCallB fIsi (mCons (mV 0) (mCons (mC (.ty "str")) mNil))))) (X_line.mRaise "BadText" (mCons (mC (.int 0)) mNil)) mPass)
  (mSeq (mAsg (.nm 1) (mMt "str" (fSplit false) (mV 0) (mCons (mC (.str "\n")) mNil)))
  (mRet (mTup (mCons (mSl (fSl false) (mV 1) mNoPart (mPart (mUn fNeg (mC (.int 1))))) (mCons (mBin fIx (mV 1) (mUn fNeg (mC (.int 1)))) mNil))))))
noncomputable def m_lines_in : DF := mDef 1 2 true b_lines_in
noncomputable def b_read_web : SM := (mSeq (mAsg (.tp [(.nm 1), (.nm 2)]) (mCall m_lines_in (mCons (mV 0) mNil)))
  (mSeq (mPar 3 4 (mCons (mC .non) (mCons (mLst true mNil) mNil)))
  (mSeq (mFor (mItA itEnum2 (mCons (mV 1) mNil)) (.tp [(.nm 5), (.nm 6)]) (mSeq (mAsg (.nm 7) (mIf (tB_ (mBin fEq (mV 5) (mC (.int 0)))) (mCall m_numbers_behind (mCons (mV 6) (mCons (mC (.str "web")) (mCons (mC (.int 1)) mNil)))) (mCall m_numbers_behind (mCons (mV 6) (mCons (mC (.str "piece")) (mCons (mC (.int 0)) mNil))))))
  (mSeq (mIfS (tB_ (mBin fIsN (mV 7) (mC .non))) (X_line.mRaise "BadText" (mCons (mBin (fAdd false) (mV 5) (mC (.int 1))) mNil)) mPass)
  (mIfS (tB_ (mBin fEq (mV 5) (mC (.int 0)))) (mAsg (.nm 3) (mV 7)) (mExpr (mMt "list" fAppend (mV 4) (mCons (mTup (mCons (mBin fIx (mV 7) (mC (.int 1))) (mCons (mBin fIx (mV 7) (mC (.int 0))) mNil))) mNil)))))))
  (mSeq (mIfS (tOr_ (tB_ (mBin fNe (mV 2) (mC (.str "")))) (tB_ (mBin fIsN (mV 3) (mC .non)))) (X_line.mRaise "BadText" (mCons (mBin (fAdd false) (mCallB fLen (mCons (mV 1) mNil)) (mC (.int 1))) mNil)) mPass)
  (mRet (mNewC "Web" m_Web___init__ (mCons (mBin fIx (mV 3) (mC (.int 0))) (mCons (mBin fIx (mV 3) (mC (.int 1))) (mCons (mCallB fTuple (mCons (mV 4) mNil)) mNil)))))))))
noncomputable def m_read_web : DF := mDef 1 8 true b_read_web
noncomputable def b__law_mixed : SM := (mSeq (mAsg (.nm 2) (mBin fModI (mBin (fMul2 false) (mBin (fAdd false) (mBin (fAdd false) (mBin fModI (mCallB fInt (mCons (mV 0) mNil)) (mC (.int 2147483647))) (mBin (fMul2 false) (mC (.int 7919)) (mV 1))) (mC (.int 1))) (mC (.int 48271))) (mC (.int 2147483647))))
  (mSeq (mAsg (.nm 2) (mBin fModI (mBin (fMul2 false) (mV 2) (mBin (fAdd false) (mBin fDivI (mV 2) (mC (.int 1009))) (mC (.int 69621)))) (mC (.int 2147483647))))
  (mRet (mBin fDivI (mBin fModI (mBin (fMul2 false) (mV 2) (mBin (fAdd false) (mBin fDivI (mV 2) (mC (.int 2003))) (mC (.int 40692)))) (mC (.int 2147483399))) (mC (.int 16))))))
noncomputable def m__law_mixed : DF := mDef 2 3 true b__law_mixed
noncomputable def b__law_bag : SM := (mRet (mLst true (mCons (mLc false [1] (mIt (mSl (fSl false) (mV 0) mNoPart (mPart (mC (.int 63))))) (.nm 1) tYes_ (mCallB fInt (mCons (mV 1) mNil))) (mCons (mC (.int 0)) (mCons (mC (.int 0)) (mCons (mC (.int 0)) mNil))))))
noncomputable def m__law_bag : DF := mDef 1 2 false b__law_bag
noncomputable def b__law_draw : SM := (mSeq (mSetI (mV 0) (mC (.int 3)) (mBin (fAdd false) (mBin fIx (mV 0) (mC (.int 3))) (mC (.int 1))))
  (mSeq (mIfS (tB_ (mBin fGt (mBin fIx (mV 0) (mC (.int 2))) (mC (.int 0)))) (mSeq (mAsg (.nm 2) (mBin fModI (mCallB fInt (mCons (mBin fIx (mV 0) (mC (.int 2))) mNil)) (mV 1)))
  (mSeq (mSetI (mV 0) (mC (.int 2)) (mBin fDivI (mBin fIx (mV 0) (mC (.int 2))) (mV 1)))
  (mRet (mV 2)))) mPass)
  (mSeq (mAsg (.nm 3) (mBin fIx (mV 0) (mC (.int 0))))
  (mSeq (mIfS (tB_ (mBin fEq (mCallB fLen (mCons (mV 3) mNil)) (mC (.int 0)))) (mRet (mBin fModI (mCall m__law_mixed (mCons (mC (.int 0)) (mCons (mBin fIx (mV 0) (mC (.int 3))) mNil))) (mV 1))) mPass)
  (mSeq (mAsg (.nm 4) (mBin fIx (mV 0) (mC (.int 1))))
  (mSeq (mSetI (mV 0) (mC (.int 1)) (mBin (fAdd false) (mV 4) (mC (.int 1))))
  (mSeq (mAsg (.nm 5) (mBin fIx (mV 3) (mBin fModI (mCallB fInt (mCons (mV 4) mNil)) (mCallB fLen (mCons (mV 3) mNil)))))
  (mSeq (mIfS (tAnd_ (tB_ (mBin fLt (mV 4) (mCallB fLen (mCons (mV 3) mNil)))) (tB_ (mBin fGe (mCallB fAbs (mCons (mV 5) mNil)) (mBin fPowI (mC (.int 10)) (mC (.int 18)))))) (mSeq (mSetI (mV 0) (mC (.int 2)) (mBin fDivI (mCallB fAbs (mCons (mV 5) mNil)) (mV 1)))
  (mRet (mBin fModI (mCallB fInt (mCons (mCallB fAbs (mCons (mV 5) mNil)) mNil)) (mV 1)))) mPass)
  (mRet (mBin fModI (mCall m__law_mixed (mCons (mV 5) (mCons (mBin fIx (mV 0) (mC (.int 3))) mNil))) (mV 1)))))))))))
noncomputable def m__law_draw : DF := mDef 2 6 true b__law_draw
noncomputable def b__law_primes : SM := (mRet (mLc false [0] (mItA itRange2 (mCons (mC (.int 2)) (mCons (mC (.int 252)) mNil))) (.nm 0) (tB_ (mBin fEq (mCallB fLen (mCons (mLc false [1] (mItA itRange2 (mCons (mC (.int 2)) (mCons (mC (.int 16)) mNil))) (.nm 1) (tAnd_ (tB_ (mBin fLt (mV 1) (mV 0))) (tB_ (mBin fEq (mBin fSubI (mV 0) (mBin (fMul2 false) (mV 1) (mBin fDivI (mV 0) (mV 1)))) (mC (.int 0))))) (mV 1)) mNil)) (mC (.int 0)))) (mV 0)))
noncomputable def m__law_primes : DF := mDef 0 2 true b__law_primes
noncomputable def b__law_drawn : SM := (mSeq (mAsg (.nm 1) (mCall m__law_primes mNil))
  (mSeq (mAsg (.nm 2) (mBin fIx (mV 1) (mCall m__law_draw (mCons (mV 0) (mCons (mCallB fLen (mCons (mV 1) mNil)) mNil)))))
  (mSeq (mAsg (.nm 3) (mBin (fAdd false) (mC (.int 1)) (mCall m__law_draw (mCons (mV 0) (mCons (mBin fIx (mLst false (mCons (mC (.int 3)) (mCons (mC (.int 10)) mNil))) (mCall m__law_draw (mCons (mV 0) (mCons (mC (.int 2)) mNil)))) mNil)))))
  (mSeq (mAsg (.nm 4) (mLst true mNil))
  (mSeq (mFor (mItA itRange1 (mCons (mCall m__law_draw (mCons (mV 0) (mCons (mBin fIx (mLst false (mCons (mC (.int 4)) (mCons (mC (.int 12)) (mCons (mC (.int 41)) mNil)))) (mCall m__law_draw (mCons (mV 0) (mCons (mC (.int 3)) mNil)))) mNil))) mNil)) (.nm 5) (mSeq (mAsg (.nm 6) (mLc true [7] (mItA itRange1 (mCons (mV 3) mNil)) (.nm 7) tYes_ (mCall m__law_draw (mCons (mV 0) (mCons (mV 2) mNil)))))
  (mSeq (mSetI (mV 6) (mCall m__law_draw (mCons (mV 0) (mCons (mV 3) mNil))) (mBin (fAdd false) (mC (.int 1)) (mCall m__law_draw (mCons (mV 0) (mCons (mBin fSubI (mV 2) (mC (.int 1))) mNil)))))
  (mExpr (mMt "list" fAppend (mV 4) (mCons (mTup (mCons (mCallB fTuple (mCons (mV 6) mNil)) (mCons (mBin (fAdd false) (mC (.int 1)) (mCall m__law_draw (mCons (mV 0) (mCons (mBin fIx (mLst false (mCons (mC (.int 5)) (mCons (mBin fPowI (mC (.int 10)) (mC (.int 6))) mNil))) (mCall m__law_draw (mCons (mV 0) (mCons (mC (.int 2)) mNil)))) mNil)))) mNil))) mNil))))))
  (mRet (mTup (mCons (mV 2) (mCons (mV 3) (mCons (mCallB fTuple (mCons (mV 4) mNil)) mNil))))))))))
noncomputable def m__law_drawn : DF := mDef 1 8 true b__law_drawn
noncomputable def b__law_text : SM := (mSeq (mAsg (.nm 1) (mLst true (mCons (mMt "str" fJoin (mC (.str " ")) (mCons (mLst false (mCons (mC (.str "web")) (mCons (mCallB fStr (mCons (mBin fIx (mV 0) (mC (.int 0))) mNil)) (mCons (mCallB fStr (mCons (mBin fIx (mV 0) (mC (.int 1))) mNil)) mNil)))) mNil)) mNil)))
  (mSeq (mFor (mIt (mBin fIx (mV 0) (mC (.int 2)))) (.tp [(.nm 2), (.nm 3)]) (mExpr (mMt "list" fAppend (mV 1) (mCons (mBin (fAdd false) (mBin (fAdd false) (mBin (fAdd false) (mC (.str "piece ")) (mCallB fStr (mCons (mV 3) mNil))) (mC (.str " "))) (mMt "str" fJoin (mC (.str ",")) (mCons (mLc false [5] (mIt (mV 2)) (.nm 5) tYes_ (mCallB fStr (mCons (mV 5) mNil))) mNil))) mNil))))
  (mRet (mMt "str" fJoin (mC (.str "")) (mCons (mLc false [4] (mIt (mV 1)) (.nm 4) tYes_ (mBin (fAdd false) (mV 4) (mC (.str "\n")))) mNil)))))
noncomputable def m__law_text : DF := mDef 1 6 true b__law_text
noncomputable def b__law_number : SM := (mSeq (mIfS (tOr_ (tNot_ (tB_ (mCh fLe fLe (mC (.int 1)) (mCallB fLen (mCons (mV 0) mNil)) (mC (.int 9))))) (tNot_ (tB_ (mCallB fAll (mCons (mLc false [1] (mIt (mV 0)) (.nm 1) tYes_ (mBin (fIn2 false) (mV 1) (mC (.str "0123456789")))) mNil))))) (mRet (mC .non)) mPass)
  (mSeq (mIfS (tAnd_ (tB_ (mBin fEq (mBin fIx (mV 0) (mC (.int 0))) (mC (.str "0")))) (tB_ (mBin fGt (mCallB fLen (mCons (mV 0) mNil)) (mC (.int 1))))) (mRet (mC .non)) mPass)
  (mRet (mCallB fInt (mCons (mV 0) mNil)))))
noncomputable def m__law_number : DF := mDef 1 2 true b__law_number
noncomputable def b__law_line : SM := (mSeq (mAsg (.nm 2) (mMt "str" (fSplit false) (mV 0) (mCons (mC (.str " ")) mNil)))
  (mSeq (mIfS (tOr_ (tB_ (mBin fNe (mCallB fLen (mCons (mV 2) mNil)) (mC (.int 3)))) (tB_ (mBin fNe (mBin fIx (mV 2) (mC (.int 0))) (mBin fIx (mLst false (mCons (mC (.str "piece")) (mCons (mC (.str "web")) mNil))) (mCallB fInt (mCons (mBin fEq (mV 1) (mC (.int 0))) mNil)))))) (mRet (mC .non)) mPass)
  (mSeq (mAsg (.nm 3) (mCall m__law_number (mCons (mBin fIx (mV 2) (mC (.int 1))) mNil)))
  (mSeq (mIfS (tB_ (mBin fIsN (mV 3) (mC .non))) (mRet (mC .non)) mPass)
  (mSeq (mIfS (tB_ (mBin fEq (mV 1) (mC (.int 0)))) (mSeq (mAsg (.nm 4) (mCall m__law_number (mCons (mBin fIx (mV 2) (mC (.int 2))) mNil)))
  (mSeq (mIfS (tB_ (mBin fIsN (mV 4) (mC .non))) (mRet (mC .non)) mPass)
  (mRet (mTup (mCons (mV 3) (mCons (mV 4) mNil)))))) mPass)
  (mSeq (mAsg (.nm 5) (mLc false [6] (mIt (mMt "str" (fSplit false) (mBin fIx (mV 2) (mC (.int 2))) (mCons (mC (.str ",")) mNil))) (.nm 6) tYes_ (mCall m__law_number (mCons (mV 6) mNil))))
  (mSeq (mIfS (tB_ (mBin (fIn2 false) (mC .non) (mV 5))) (mRet (mC .non)) mPass)
  (mRet (mTup (mCons (mCallB fTuple (mCons (mV 5) mNil)) (mCons (mV 3) mNil)))))))))))
noncomputable def m__law_line : DF := mDef 2 7 true b__law_line
noncomputable def b__law_bad_part : SM := (mSeq (mIfS (tB_ (mBin (fIn2 true) (mV 0) (mCall m__law_primes mNil))) (mRet (mC (.str "prime"))) mPass)
  (mSeq (mIfS (tNot_ (tB_ (mCh fLe fLe (mC (.int 1)) (mV 1) (mC (.int 10))))) (mRet (mC (.str "many"))) mPass)
  (mSeq (mIfS (tB_ (mBin fGt (mCallB fLen (mCons (mV 2) mNil)) (mC (.int 40)))) (mRet (mC (.str "pieces"))) mPass)
  (mSeq (mFor (mItA itRange1 (mCons (mCallB fLen (mCons (mV 2) mNil)) mNil)) (.nm 3) (mSeq (mAsg (.tp [(.nm 4), (.nm 5)]) (mBin fIx (mV 2) (mV 3)))
  (mIfS (tOr_ (tB_ (mBin fNe (mCallB fLen (mCons (mV 4) mNil)) (mV 1))) (tOr_ (tB_ (mBin fGe (mCallB fMax (mCons (mV 4) mNil)) (mV 0))) (tOr_ (tB_ (mBin fEq (mCallB fMax (mCons (mV 4) mNil)) (mC (.int 0)))) (tNot_ (tB_ (mCh fLe fLe (mC (.int 1)) (mV 5) (mBin fPowI (mC (.int 10)) (mC (.int 6))))))))) (mRet (mV 3)) mPass)))
  (mRet (mC .non))))))
noncomputable def m__law_bad_part : DF := mDef 3 6 true b__law_bad_part
noncomputable def b__law_due : SM := (mSeq (mAsg (.nm 1) (mMt "str" (fSplit false) (mV 0) (mCons (mC (.str "\n")) mNil)))
  (mSeq (mAsg (.nm 2) (mLst true mNil))
  (mSeq (mFor (mItA itRange1 (mCons (mBin fSubI (mCallB fLen (mCons (mV 1) mNil)) (mC (.int 1))) mNil)) (.nm 3) (mSeq (mAsg (.nm 4) (mCall m__law_line (mCons (mBin fIx (mV 1) (mV 3)) (mCons (mV 3) mNil))))
  (mSeq (mIfS (tB_ (mBin fIsN (mV 4) (mC .non))) (mRet (mTup (mCons (mC (.str "text")) (mCons (mBin (fAdd false) (mV 3) (mC (.int 1))) mNil)))) mPass)
  (mExpr (mMt "list" fAppend (mV 2) (mCons (mV 4) mNil))))))
  (mSeq (mIfS (tOr_ (tB_ (mBin fNe (mBin fIx (mV 1) (mUn fNeg (mC (.int 1)))) (mC (.str "")))) (tB_ (mBin fEq (mCallB fLen (mCons (mV 2) mNil)) (mC (.int 0))))) (mRet (mTup (mCons (mC (.str "text")) (mCons (mCallB fLen (mCons (mV 1) mNil)) mNil)))) mPass)
  (mSeq (mAsg (.nm 5) (mCall m__law_bad_part (mCons (mBin fIx (mBin fIx (mV 2) (mC (.int 0))) (mC (.int 0))) (mCons (mBin fIx (mBin fIx (mV 2) (mC (.int 0))) (mC (.int 1))) (mCons (mSl (fSl false) (mV 2) (mPart (mC (.int 1))) mNoPart) mNil)))))
  (mSeq (mIfS (tB_ (mBin fNotN (mV 5) (mC .non))) (mRet (mTup (mCons (mC (.str "web")) (mCons (mV 5) mNil)))) mPass)
  (mRet (mTup (mCons (mC (.str "read")) (mCons (mBin fIx (mBin fIx (mV 2) (mC (.int 0))) (mC (.int 0))) (mCons (mBin fIx (mBin fIx (mV 2) (mC (.int 0))) (mC (.int 1))) (mCons (mCallB fTuple (mCons (mSl (fSl false) (mV 2) (mPart (mC (.int 1))) mNoPart) mNil)) mNil))))))))))))
noncomputable def m__law_due : DF := mDef 1 6 true b__law_due
noncomputable def z0__law_told : CM := ⟨[("BadText", true), ("BadWeb", false)], (some 3), fun _ fs ea ed => (mSeq (mAsg (.nm 2) (mTup (mCons (mC (.str "text")) (mCons (mErrF ea ed fs "line" (mV 3)) mNil))))
  (mIfS (tNot_ (tB_ (mErrI ea ed fs true (mV 3)))) (mAsg (.nm 2) (mTup (mCons (mC (.str "other")) (mCons (mC (.int 0)) mNil)))) mPass))⟩
noncomputable def z1__law_told : CM := ⟨[("BadWeb", true)], (some 3), fun _ fs ea ed => (mSeq (mAsg (.nm 2) (mTup (mCons (mC (.str "web")) (mCons (mErrF ea ed fs "part" (mV 3)) mNil))))
  (mIfS (tNot_ (tB_ (mErrI ea ed fs true (mV 3)))) (mAsg (.nm 2) (mTup (mCons (mC (.str "other")) (mCons (mC (.int 0)) mNil)))) mPass))⟩
noncomputable def zs__law_told : List CM := [z0__law_told, z1__law_told]
noncomputable def b__law_told : SM := (mSeq (mTry (mSeq (mAsg (.nm 1) (mCall m_read_web (mCons (mV 0) mNil)))
  (mAsg (.nm 2) (mTup (mCons (mC (.str "read")) (mCons (mAttr "Web" "prime" (mV 1)) (mCons (mAttr "Web" "many" (mV 1)) (mCons (mAttr "Web" "pieces" (mV 1)) mNil))))))) zs__law_told)
  (mRet (mV 2)))
noncomputable def m__law_told : DF := mDef 1 4 true b__law_told
noncomputable def b__law_is_same (g0 : DF) : SM := (mSeq (mIfS (tB_ (mCallB fIsi (mCons (mV 1) (mCons (mC (.ty "tuple")) mNil)))) (mSeq (mIfS (tOr_ (tNot_ (tB_ (mCallB fIsi (mCons (mV 0) (mCons (mC (.ty "tuple")) mNil))))) (tB_ (mBin fNe (mCallB fLen (mCons (mV 0) mNil)) (mCallB fLen (mCons (mV 1) mNil))))) (mRet (mC (.bl false))) mPass)
  (mRet (mCallB fAll (mCons (mLc false [2] (mItA itRange1 (mCons (mCallB fLen (mCons (mV 1) mNil)) mNil)) (.nm 2) tYes_ (mCall g0 (mCons (mBin fIx (mV 0) (mV 2)) (mCons (mBin fIx (mV 1) (mV 2)) mNil)))) mNil)))) mPass)
  (mRet (mAnd (mBin fEq (mCallB fIsi (mCons (mV 0) (mCons (mC (.ty "bool")) mNil))) (mCallB fIsi (mCons (mV 1) (mCons (mC (.ty "bool")) mNil)))) (mBin fEq (mV 0) (mV 1)))))
noncomputable def m__law_is_same : Nat → DF
  | 0 => fun _ _ => .bad
  | n + 1 => mDef 2 3 true (b__law_is_same (m__law_is_same n))
theorem len__law_is_same : ∀ (n : Nat) (qs : List PV) (h : PH), m__law_is_same n qs h ≠ .bad → qs.length = 2
  | 0, _, _, e => absurd rfl e
  | _ + 1, _, _, e => mDef_len e
noncomputable def b__law_spoilt : SM := (mSeq (mAsg (.nm 2) (mC (.str "0123456789, \nwebpieczx-+")))
  (mSeq (mAsg (.nm 3) (mBin fIx (mV 2) (mCall m__law_draw (mCons (mV 0) (mCons (mCallB fLen (mCons (mV 2) mNil)) mNil)))))
  (mSeq (mAsg (.nm 4) (mCall m__law_draw (mCons (mV 0) (mCons (mBin (fAdd false) (mCallB fLen (mCons (mV 1) mNil)) (mC (.int 1))) mNil))))
  (mSeq (mAsg (.nm 5) (mCall m__law_draw (mCons (mV 0) (mCons (mC (.int 10)) mNil))))
  (mSeq (mIfS (tB_ (mBin fLt (mV 5) (mC (.int 2)))) (mRet (mBin (fAdd false) (mBin (fAdd false) (mSl (fSl false) (mV 1) mNoPart (mPart (mV 4))) (mV 3)) (mSl (fSl false) (mV 1) (mPart (mV 4)) mNoPart))) mPass)
  (mSeq (mIfS (tB_ (mBin fLt (mV 5) (mC (.int 4)))) (mRet (mBin (fAdd false) (mSl (fSl false) (mV 1) mNoPart (mPart (mV 4))) (mSl (fSl false) (mV 1) (mPart (mBin (fAdd false) (mV 4) (mC (.int 1)))) mNoPart))) mPass)
  (mSeq (mIfS (tB_ (mBin fEq (mV 5) (mC (.int 4)))) (mRet (mBin (fAdd false) (mBin (fAdd false) (mSl (fSl false) (mV 1) mNoPart (mPart (mV 4))) (mV 3)) (mSl (fSl false) (mV 1) (mPart (mBin (fAdd false) (mV 4) (mC (.int 1)))) mNoPart))) mPass)
  (mSeq (mAsg (.nm 6) (mMt "str" (fSplit false) (mV 1) (mCons (mC (.str "\n")) mNil)))
  (mSeq (mAsg (.nm 7) (mCall m__law_draw (mCons (mV 0) (mCons (mCallB fLen (mCons (mV 6) mNil)) mNil))))
  (mSeq (mIfS (tB_ (mBin fEq (mV 5) (mC (.int 5)))) (mRet (mMt "str" fJoin (mC (.str "\n")) (mCons (mBin (fAdd false) (mSl (fSl false) (mV 6) mNoPart (mPart (mV 7))) (mSl (fSl false) (mV 6) (mPart (mBin (fAdd false) (mV 7) (mC (.int 1)))) mNoPart)) mNil))) mPass)
  (mSeq (mIfS (tB_ (mBin fEq (mV 5) (mC (.int 6)))) (mRet (mMt "str" fJoin (mC (.str "\n")) (mCons (mBin (fAdd false) (mSl (fSl false) (mV 6) mNoPart (mPart (mBin (fAdd false) (mV 7) (mC (.int 1))))) (mSl (fSl false) (mV 6) (mPart (mV 7)) mNoPart)) mNil))) mPass)
  (mSeq (mAsg (.nm 8) (mLst true (mCons (mC (.str "")) (mCons (mC (.str " ")) (mCons (mC (.str "piece 1 1")) (mCons (mC (.str "piece 1000001 1")) (mCons (mC (.str "piece 0 1")) (mCons (mC (.str "piece 1 0")) (mCons (mC (.str "piece 1 251,1")) (mCons (mC (.str "piece 01 1")) (mCons (mC (.str "web 4 2")) mNil)))))))))))
  (mSeq (mAsg (.nm 8) (mBin (fAdd true) (mV 8) (mLst false (mCons (mC (.str "web 2 11")) (mCons (mC (.str "web 2 0")) (mCons (mC (.str "piece 1 1,")) (mCons (mC (.str "piece 1  1")) (mCons (mC (.str "piece 1000000000 1")) (mCons (mC (.str "piece 1 1,00")) mNil)))))))))
  (mSeq (mExpr (mMt "list" fAppend (mV 8) (mCons (mC (.str "web 999999999 1")) mNil)))
  (mSeq (mAsg (.nm 9) (mBin fIx (mV 8) (mCall m__law_draw (mCons (mV 0) (mCons (mC (.int 16)) mNil)))))
  (mSeq (mIfS (tB_ (mBin fEq (mV 5) (mC (.int 7)))) (mRet (mMt "str" fJoin (mC (.str "\n")) (mCons (mBin (fAdd false) (mBin (fAdd false) (mSl (fSl false) (mV 6) mNoPart (mPart (mV 7))) (mLst false (mCons (mV 9) mNil))) (mSl (fSl false) (mV 6) (mPart (mBin (fAdd false) (mV 7) (mC (.int 1)))) mNoPart)) mNil))) mPass)
  (mRet (mMt "str" fJoin (mC (.str "\n")) (mCons (mBin (fAdd false) (mBin (fAdd false) (mSl (fSl false) (mV 6) mNoPart (mPart (mV 7))) (mLst false (mCons (mV 9) mNil))) (mSl (fSl false) (mV 6) (mPart (mV 7)) mNoPart)) mNil)))))))))))))))))))
noncomputable def m__law_spoilt : DF := mDef 2 10 true b__law_spoilt
noncomputable def b_law : SM := (mSeq (mAsg (.nm 1) (mCall m__law_bag (mCons (mV 0) mNil)))
  (mSeq (mAsg (.nm 2) (mCall m__law_drawn (mCons (mV 1) mNil)))
  (mSeq (mAsg (.nm 3) (mNewC "Web" m_Web___init__ (mCons (mBin fIx (mV 2) (mC (.int 0))) (mCons (mBin fIx (mV 2) (mC (.int 1))) (mCons (mBin fIx (mV 2) (mC (.int 2))) mNil)))))
  (mSeq (mAsg (.nm 4) (mCall m__law_text (mCons (mV 2) mNil)))
  (mSeq (mIfS (tOr_ (tB_ (mBin fNe (mCall m_web_text (mCons (mV 3) mNil)) (mV 4))) (tOr_ (tNot_ (tB_ (mCall (m__law_is_same 5) (mCons (mCall m__law_told (mCons (mV 4) mNil)) (mCons (mBin (fAdd false) (mTup (mCons (mC (.str "read")) mNil)) (mV 2)) mNil))))) (tB_ (mBin (fNeC "Web" m_Web___eq__) (mCall m_read_web (mCons (mV 4) mNil)) (mV 3))))) (mRet (mC (.bl false))) mPass)
  (mSeq (mFor (mItA itRange1 (mCons (mC (.int 6)) mNil)) (.nm 5) (mSeq (mAsg (.nm 6) (mV 4))
  (mSeq (mFor (mItA itRange1 (mCons (mCall m__law_draw (mCons (mV 1) (mCons (mC (.int 3)) mNil))) mNil)) (.nm 7) (mAsg (.nm 6) (mCall m__law_spoilt (mCons (mV 1) (mCons (mV 6) mNil)))))
  (mSeq (mAsg (.nm 8) (mCall m__law_due (mCons (mV 6) mNil)))
  (mSeq (mIfS (tNot_ (tB_ (mCall (m__law_is_same 5) (mCons (mCall m__law_told (mCons (mV 6) mNil)) (mCons (mV 8) mNil))))) (mRet (mC (.bl false))) mPass)
  (mIfS (tAnd_ (tB_ (mBin fEq (mBin fIx (mV 8) (mC (.int 0))) (mC (.str "read")))) (tB_ (mBin fNe (mCall m_web_text (mCons (mCall m_read_web (mCons (mV 6) mNil)) mNil)) (mV 6)))) (mRet (mC (.bl false))) mPass))))))
  (mSeq (mAsg (.nm 9) (mCall m__law_text (mCons (mTup (mCons (mBin fIx (mV 2) (mC (.int 0))) (mCons (mBin fIx (mV 2) (mC (.int 1))) (mCons (mBin (fMul2 false) (mTup (mCons (mTup (mCons (mBin (fMul2 false) (mTup (mCons (mC (.int 1)) mNil)) (mBin fIx (mV 2) (mC (.int 1)))) (mCons (mC (.int 7)) mNil))) mNil)) (mBin (fAdd false) (mC (.int 40)) (mCall m__law_draw (mCons (mV 1) (mCons (mC (.int 2)) mNil))))) mNil)))) mNil)))
  (mSeq (mIfS (tNot_ (tB_ (mCall (m__law_is_same 5) (mCons (mCall m__law_told (mCons (mV 9) mNil)) (mCons (mCall m__law_due (mCons (mV 9) mNil)) mNil))))) (mRet (mC (.bl false))) mPass)
  (mSeq (mFor (mIt (mLst false (mCons (mC .non) (mCons (mC (.int 5)) (mCons (mTup mNil) (mCons (mLst false (mCons (mV 4) mNil)) (mCons (mC (.bl true)) mNil))))))) (.nm 10) (mIfS (tNot_ (tB_ (mCall (m__law_is_same 5) (mCons (mCall m__law_told (mCons (mV 10) mNil)) (mCons (mTup (mCons (mC (.str "text")) (mCons (mC (.int 0)) mNil))) mNil))))) (mRet (mC (.bl false))) mPass))
  (mRet (mAnd (mCall (m__law_is_same 5) (mCons (mCall m__law_told (mCons (mSl (fSl false) (mV 4) mNoPart (mPart (mUn fNeg (mC (.int 1))))) mNil)) (mCons (mTup (mCons (mC (.str "text")) (mCons (mBin (fAdd false) (mC (.int 1)) (mCallB fLen (mCons (mBin fIx (mV 2) (mC (.int 2))) mNil))) mNil))) mNil))) (mCall (m__law_is_same 5) (mCons (mCall m__law_told (mCons (mC (.str "")) mNil)) (mCons (mTup (mCons (mC (.str "text")) (mCons (mC (.int 1)) mNil))) mNil))))))))))))))
noncomputable def m_law : DF := mDef 1 11 true b_law
end Ev
set_option maxHeartbeats 4000000
/-! Q1: the plain law of k73: numbers and lines. -/
namespace Ev
open PySem PySem.Spec PyProof.Rows L2
theorem integer_eq {p : PV} {h : PH} (hp : pk p = true) : m_is_integer [p] h = .ok (.bl (isI p)) h := mDef_run rfl (by
  cases p <;> simp [pk] at hp <;> simp [b_is_integer, mV, fIsi, tyN, isI, outF_same])
theorem within_eq {p : PV} {h : PH} {lo hi : Int} (hp : pk p = true) : m_is_within [p, .int lo, .int hi] h = .ok (.bl (inIv p lo hi)) h := mDef_run rfl (by
  have e := integer_eq (h := h) hp
  cases p <;> simp [pk] at hp <;> simp [b_is_within, mV, fI, e, isI, inIv, outF_same]
  rename_i i
  by_cases hlo : lo ≤ i <;> simp [hlo, outF_same])
theorem pair_eq {p : PV} {h : PH} (hp : pk p = true) : m_is_pair [p] h = .ok (.bl (match p with | .tup xs => decide (xs.length = 2) | _ => false)) h := mDef_run rfl (by
  cases p with
  | tup xs =>
    have e : ((xs.length : Int) = 2) ↔ xs.length = 2 := by omega
    simp [b_is_pair, mV, fIsi, tyN, fLen, asQ, asL, asT, outF_same, e]
  | _ => first | (simp [pk] at hp; done) | simp [b_is_pair, mV, fIsi, tyN, outF_same])
theorem figW_chars (w : Str) (h : PH) (ρ0 : Ro) (i : Nat) (own : List Nat) (src : IMm) (ρ : Ro) (hs : src ρ h = .ok ⟨w.cps.toList.map fun c => .str ⟨#[c]⟩, fun _ => true⟩ h) (hi : i < ρ.length) (hown : wipeR ρ own = ρ0) (hl0 : ρ0.length = ρ.length) (hl : w.length ≤ 1000000) :
    mLc false own src (.nm i) tYes_ (mBin (fIn2 false) (mV i) (mC (.str "0123456789"))) ρ h = .ok (.lst (w.cps.toList.map fun c => .bl (decide (c ∈ figs)))) h := by
  have lc := mLc_pure (b := false) (own := own) (mi := src) (t := .nm i) (me := mBin (fIn2 false) (mV i) (mC (.str "0123456789"))) (ρ := ρ) (h := h) (s := ⟨w.cps.toList.map fun c => .str ⟨#[c]⟩, fun _ => true⟩)
    (fun c => .str ⟨#[c]⟩) (fun c => .bl (decide (c ∈ figs))) w.cps.toList hs rfl rfl (fun c _ => ⟨_, rfl, by
      rw [hown]
      have e : (ρ0.set i (some (PV.str ⟨#[c]⟩)))[i]? = some (some (PV.str ⟨#[c]⟩)) := List.getElem?_set_self (by rw [hl0]; exact hi)
      simp [mV, e, fIn2, fIn, orF, fInS, figs]⟩) (by rw [← len_tl, sizeLine_eq]; omega)
  rw [lc]
  rfl
theorem number_eq {w : Str} (hl : w.length ≤ 1000000) (h : PH) : m_number_in [.str w] h = .ok (oI_ (numF w)) h := mDef_run rfl (by
  have lc := figW_chars w h [some (.str w), none] 1 [1] (mIt (mV 0)) [some (.str w), none] rfl (by simp) rfl rfl hl
  have ea := fAll_bl (fun c => decide (c ∈ figs)) w.cps.toList h
  have hz : w.length ≤ 16777216 := by omega
  by_cases h1 : 1 ≤ w.length
  · by_cases h2 : w.length ≤ 9
    · have k1 : (1 : Int) ≤ w.length := by omega
      have k2 : (w.length : Int) ≤ 9 := by omega
      cases ha : w.cps.toList.all fun c => decide (c ∈ figs) with
      | false =>
        have hn : numF w = none := by simp [numF, figW, ha]
        simp [b_number_in, mV, fLen, asQ, asL, asT, sizeLine_eq, hz, fI, k1, k2, lc, ea, ha, hn, oI_, outF_same]
      | true =>
        have hf : figW w = true := by simp [figW, h1, h2, ha]
        have hi := int_figs hf
        have h640 : w.length ≤ 640 := by omega
        obtain ⟨c, c1, c2⟩ := first_sign w h h1 hl
        by_cases h3 : 1 < w.length
        · have k3 : (1 : Int) < w.length := by omega
          by_cases h4 : c = 48
          · have hn : numF w = none := by simp [numF, lead, h3, c1, h4]
            have s4 : decide ((⟨#[c]⟩ : Str) = "0") = true := by rw [sign_eq, h4]; rfl
            simp only [decide_eq_true_eq] at s4
            simp [b_number_in, mV, fLen, asQ, asL, asT, sizeLine_eq, hz, fI, k1, k2, k3, lc, ea, ha, hn, oI_, outF_same, c2, s4]
          · have hn : numF w = some ((NumText.digitsVal w.cps.toList : Nat) : Int) := by simp [numF, lead, hf, c1, h4]
            have s4 : decide ((⟨#[c]⟩ : Str) = "0") = false := by rw [sign_eq]; simp [h4]
            simp only [decide_eq_false_iff_not] at s4
            simp [b_number_in, mV, fLen, asQ, asL, asT, sizeLine_eq, hz, fI, k1, k2, k3, lc, ea, ha, hn, oI_, outF_same, c2, s4, fInt, orC, fInt1, fInt2, hi, h640]
        · have k3 : ¬ (1 : Int) < w.length := by omega
          have hn : numF w = some ((NumText.digitsVal w.cps.toList : Nat) : Int) := by simp [numF, lead, hf, h3]
          simp [b_number_in, mV, fLen, asQ, asL, asT, sizeLine_eq, hz, fI, k1, k2, k3, lc, ea, ha, hn, oI_, outF_same, fInt, orC, fInt1, fInt2, hi, h640]
    · have k1 : (1 : Int) ≤ w.length := by omega
      have k2 : ¬ (w.length : Int) ≤ 9 := by omega
      have hn : numF w = none := by simp [numF, figW, h2]
      simp [b_number_in, mV, fLen, asQ, asL, asT, sizeLine_eq, hz, fI, k1, k2, hn, oI_, outF_same]
  · have k1 : ¬ (1 : Int) ≤ w.length := by omega
    have hn : numF w = none := by simp [numF, figW, h1]
    simp [b_number_in, mV, fLen, asQ, asL, asT, sizeLine_eq, hz, fI, k1, hn, oI_, outF_same])
theorem lnumber_eq {w : Str} (hl : w.length ≤ 1000000) (h : PH) : m__law_number [.str w] h = .ok (oI_ (numF w)) h := mDef_run rfl (by
  have lc := figW_chars w h [some (.str w), none] 1 [1] (mIt (mV 0)) [some (.str w), none] rfl (by simp) rfl rfl hl
  have ea := fAll_bl (fun c => decide (c ∈ figs)) w.cps.toList h
  have hz : w.length ≤ 16777216 := by omega
  by_cases h1 : 1 ≤ w.length
  · by_cases h2 : w.length ≤ 9
    · have k1 : (1 : Int) ≤ w.length := by omega
      have k2 : (w.length : Int) ≤ 9 := by omega
      cases ha : w.cps.toList.all fun c => decide (c ∈ figs) with
      | false =>
        have hn : numF w = none := by simp [numF, figW, ha]
        simp [b__law_number, mV, fLen, asQ, asL, asT, sizeLine_eq, hz, fI, k1, k2, lc, ea, ha, hn, oI_, outF_same]
      | true =>
        have hf : figW w = true := by simp [figW, h1, h2, ha]
        have hi := int_figs hf
        have h640 : w.length ≤ 640 := by omega
        obtain ⟨c, c1, c2⟩ := first_sign w h h1 hl
        by_cases h4 : c = 48
        · have s4 : (⟨#[c]⟩ : Str) = "0" := by
            have : decide ((⟨#[c]⟩ : Str) = "0") = true := by rw [sign_eq, h4]; rfl
            exact of_decide_eq_true this
          by_cases h3 : 1 < w.length
          · have k3 : (1 : Int) < w.length := by omega
            have hn : numF w = none := by simp [numF, lead, h3, c1, h4]
            simp [b__law_number, mV, fLen, asQ, asL, asT, sizeLine_eq, hz, fI, k1, k2, k3, lc, ea, ha, hn, oI_, outF_same, c2, s4]
          · have k3 : ¬ (1 : Int) < w.length := by omega
            have hn : numF w = some ((NumText.digitsVal w.cps.toList : Nat) : Int) := by simp [numF, lead, hf, h3]
            simp [b__law_number, mV, fLen, asQ, asL, asT, sizeLine_eq, hz, fI, k1, k2, k3, lc, ea, ha, hn, oI_, outF_same, c2, s4, fInt, orC, fInt1, fInt2, hi, h640]
        · have s4 : ¬ (⟨#[c]⟩ : Str) = "0" := by
            have : decide ((⟨#[c]⟩ : Str) = "0") = false := by rw [sign_eq]; simp [h4]
            exact of_decide_eq_false this
          have hn : numF w = some ((NumText.digitsVal w.cps.toList : Nat) : Int) := by simp [numF, lead, hf, c1, h4]
          simp [b__law_number, mV, fLen, asQ, asL, asT, sizeLine_eq, hz, fI, k1, k2, lc, ea, ha, hn, oI_, outF_same, c2, s4, fInt, orC, fInt1, fInt2, hi, h640]
    · have k1 : (1 : Int) ≤ w.length := by omega
      have k2 : ¬ (w.length : Int) ≤ 9 := by omega
      have hn : numF w = none := by simp [numF, figW, h2]
      simp [b__law_number, mV, fLen, asQ, asL, asT, sizeLine_eq, hz, fI, k1, k2, hn, oI_, outF_same]
  · have k1 : ¬ (1 : Int) ≤ w.length := by omega
    have hn : numF w = none := by simp [numF, figW, h1]
    simp [b__law_number, mV, fLen, asQ, asL, asT, sizeLine_eq, hz, fI, k1, hn, oI_, outF_same])
/-! ### None among numbers -/
def optAll : List (Option Int) → Option (List Int)
  | [] => some []
  | none :: _ => none
  | some a :: r => (optAll r).map (a :: ·)
def oV : Option Int → V
  | some i => .int i
  | none => .non
theorem toVs_o : ∀ ys : List (Option Int), toVs (ys.map oI_) = some (ys.map oV)
  | [] => rfl
  | y :: ys => by
    have ih := toVs_o ys
    cases y with
    | none => simp only [List.map_cons, oI_, oV, toVs, toV, ih]
    | some a => simp only [List.map_cons, oI_, oV, toVs, toV, ih]
theorem inV_o : ∀ ys : List (Option Int), inV .non (ys.map oV) = ys.any Option.isNone
  | [] => rfl
  | y :: ys => by
    have ih := inV_o ys
    unfold inV at ih ⊢
    rw [List.map_cons, List.any_cons, ih, List.any_cons]
    cases y <;> rfl
theorem any_none : ∀ ys : List (Option Int), ys.any Option.isNone = (optAll ys).isNone
  | [] => rfl
  | none :: ys => rfl
  | some a :: ys => by
    have ih := any_none ys
    rw [List.any_cons, ih]
    simp [optAll]
theorem optAll_some : ∀ {ys : List (Option Int)} {l : List Int}, optAll ys = some l → ys = l.map some
  | [], l, e => by cases e; rfl
  | none :: ys, l, e => by cases e
  | some a :: ys, l, e => by
    simp only [optAll] at e
    cases e2 : optAll ys with
    | none => rw [e2] at e; cases e
    | some m =>
      rw [e2] at e
      cases e
      rw [optAll_some e2]
      rfl
theorem in_t (ys : List (Option Int)) (h : PH) : fIn2 false .non (.tup (ys.map oI_)) h = some (.bl (ys.any Option.isNone), h) := by
  simp only [fIn2, fIn, orF, fInS, fInQ, toV, asQ, asL, asT, Option.bind, toVs_o, inV_o]
  rfl
theorem in_l (ys : List (Option Int)) (h : PH) : fIn2 false .non (.lst (ys.map oI_)) h = some (.bl (ys.any Option.isNone), h) := by
  simp only [fIn2, fIn, orF, fInS, fInQ, toV, asQ, asL, asT, Option.bind, toVs_o, inV_o]
  rfl
theorem dats_ints : ∀ vs : List Int, dats (vs.map PV.int) = some (vs.map PyData.int)
  | [] => rfl
  | v :: vs => by
    have ih := dats_ints vs
    simp only [List.map_cons, dats, dat, ih]
theorem lay_ints : ∀ vs : List Int, PyData.canLayAll0 (vs.map PyData.int) = true
  | [] => rfl
  | v :: vs => by
    have ih := lay_ints vs
    simp only [List.map_cons, PyData.canLayAll0, PyData.canLay0, ih, Bool.and_self]
theorem dep_ints : ∀ vs : List Int, PyData.depthAll (vs.map PyData.int) ≤ 1
  | [] => by simp [PyData.depthAll]
  | v :: vs => by
    have ih := dep_ints vs
    simp only [List.map_cons, PyData.depthAll, PyData.depth]
    omega
def oD : Option Int → PyData
  | some i => .int i
  | none => .none
theorem in_lt (a : Option Int) (vs : List Int) (h : PH) : fIn2 false .non (.lst [oI_ a, .tup (vs.map .int)]) h = some (.bl a.isNone, h) := by
  have dv := dats_ints vs
  have e0 : fIn false .non (.lst [oI_ a, .tup (vs.map .int)]) h = none := by
    cases a <;> simp [fIn, orF, fInS, fInQ, toV, asQ, asL, toVs, oI_]
  have sh : SeqAt.shaped .none = true := by simp
  have ld := lay_ints vs
  have dd := dep_ints vs
  have e1 : datH h (.lst [oI_ a, .tup (vs.map .int)]) = some (.list [oD a, .tuple (vs.map .int)]) := by
    cases a <;> simp [datH, dat, dats, oI_, dv, oD]
  have sl : SeqAt.shaped (.list [oD a, .tuple (vs.map .int)]) = true := by
    cases a <;> simp [SeqAt.shaped, PyData.canLay0, PyData.canLayAll0, PyData.depth, PyData.depthAll, ld, oD] <;> omega
  have e2 : datH h .non = some .none := rfl
  have ev : ([oD a, .tuple (vs.map .int)].any fun z => PyData.eqv z .none) = a.isNone := by
    cases a <;> simp [PyData.eqv, oD]
  unfold fIn2
  unfold orF
  rw [e0]
  simp only [fInD, e1, e2, sh, sl, Bool.and_self, if_true, Bool.false_xor, ev]
def numsF (w : Str) : Option (List Int) := optAll ((Txt.split w ",").map numF)
def oT_ : Option (List Int) → PV
  | some l => .tup (l.map .int)
  | none => .non
theorem split_cm {l : Str} (hl : l.length ≤ 1000000) (h : PH) : fSplit false (.str l) [.str ","] h = some (.lst ((Txt.split l ",").map PV.str), h) := by
  have s1 : (("," : Str).length == 0) = false := by decide
  have s2 : l.length + 2 ≤ sizeLine := by rw [sizeLine_eq]; omega
  unfold fSplit
  simp only [s1, s2, and_self, if_true, ev_newL_f]
theorem split_few (w y : Str) (hy : y.length = 1) (hl : w.length ≤ 1000000) : (Txt.split w y).length ≤ 1000001 := by
  have := wide_len (Txt.split w y)
  rw [split_wide w y hy] at this
  omega
theorem nums_core {w : Str} (hl : w.length ≤ 1000000) (h : PH) (g : DF) (hg : ∀ z : Str, z.length ≤ 1000000 → g [.str z] h = .ok (oI_ (numF z)) h) (own : List Nat) (i : Nat) (src : EM) (ρ ρ0 : Ro) (hs : src ρ h = .ok (.str w) h) (hi : i < ρ.length) (hown : wipeR ρ own = ρ0) (hl0 : ρ0.length = ρ.length) :
    mLc false own (mIt (mMt "str" (fSplit false) src (mCons (mC (.str ",")) mNil))) (.nm i) tYes_ (mCall g (mCons (mV i) mNil)) ρ h = .ok (.lst (((Txt.split w ",").map numF).map oI_)) h := by
  have sp := split_cm hl h
  have it : mIt (mMt "str" (fSplit false) src (mCons (mC (.str ",")) mNil)) ρ h = .ok ⟨(Txt.split w ",").map PV.str, fun _ => true⟩ h := by
    simp only [mIt, ev_mMt, hs, ev_bind_ok, isT, isS, decide_true, Bool.and_self, Bool.true_or, if_true, ev_mCons, ev_mNil, ev_mC, sp, ev_opt_some, itSeq]
  have lc := mLc_pure (b := false) (own := own) (mi := mIt (mMt "str" (fSplit false) src (mCons (mC (.str ",")) mNil))) (t := .nm i) (me := mCall g (mCons (mV i) mNil)) (ρ := ρ) (h := h) PV.str (fun z => oI_ (numF z)) (Txt.split w ",") it rfl rfl
    (fun z hz => ⟨_, rfl, by
      rw [hown]
      have e : (ρ0.set i (some (PV.str z)))[i]? = some (some (PV.str z)) := List.getElem?_set_self (by rw [hl0]; exact hi)
      have zl := Nat.le_trans (split_len w "," z hz) hl
      simp [mV, e, hg z zl]⟩) (by rw [sizeLine_eq]; have := split_few w "," rfl hl; omega)
  rw [lc, List.map_map]
  rfl
theorem numbers_eq {w : Str} (hl : w.length ≤ 1000000) (h : PH) : m_numbers_in [.str w] h = .ok (oT_ (numsF w)) h := by
  have lc := nums_core hl h m_number_in (fun z hz => number_eq hz h) [2] 2 (mV 0) [some (.str w), none, none] [some (.str w), none, none] rfl (by simp) rfl rfl
  refine def_rt (h1 := h) (v := oT_ (numsF w)) rfl ?_ (outF_same rfl)
  show b_numbers_in [some (.str w), none, none] h = _
  unfold b_numbers_in
  have tp : fTuple [.lst (((Txt.split w ",").map numF).map oI_)] h = some (.tup (((Txt.split w ",").map numF).map oI_), h) := by simp [fTuple, asQ, asL]
  refine (seq_nx (ρ1 := [some (.str w), some (.tup (((Txt.split w ",").map numF).map oI_)), none]) (h1 := h) ?_).trans ?_
  · simp only [ev_mAsg, ev_mCallB, ev_mCons, ev_mNil, lc, ev_bind_ok, tp, ev_opt_some, ev_st_ok, ev_asg_nm, List.set_cons_succ, List.set_cons_zero]
  have i1 := in_t ((Txt.split w ",").map numF) h
  rw [any_none] at i1
  have e : numsF w = optAll ((Txt.split w ",").map numF) := rfl
  cases eo : optAll ((Txt.split w ",").map numF) with
  | none =>
    rw [eo] at i1 e
    rw [e]
    simp only [ev_mRet, ev_mIf, ev_tB, ev_mBin, ev_mC, mV, List.getElem?_cons_succ, List.getElem?_cons_zero, ev_bind_ok, i1, ev_opt_some, ev_asB, Option.isNone_none, if_true, ev_st_ok]
    rfl
  | some l =>
    have es := optAll_some eo
    rw [eo] at i1 e
    rw [e]
    simp only [ev_mRet, ev_mIf, ev_tB, ev_mBin, ev_mC, mV, List.getElem?_cons_succ, List.getElem?_cons_zero, ev_bind_ok, i1, ev_opt_some, ev_asB, Option.isNone_some, Bool.false_eq_true, if_false, ev_st_ok]
    rw [es, List.map_map]
    rfl
/-! ### lines -/
def headF (l : Str) : Option (Int × Int) := match Txt.split l " " with
  | [w, a, b] => if w = "web" then (numF a).bind fun p => (numF b).map fun m => (p, m) else none
  | _ => none
def pieceF (l : Str) : Option (List Int × Int) := match Txt.split l " " with
  | [w, a, b] => if w = "piece" then (numF a).bind fun z => (numsF b).map fun vs => (vs, z) else none
  | _ => none
end Ev
set_option maxHeartbeats 4000000
/-! Q2: lines of webs. -/
namespace Ev
open PySem PySem.Spec PyProof.Rows L2
theorem ix2 (a b c : PV) (r : List PV) (h : PH) : fIx (.lst (a :: b :: c :: r)) (.int 2) h = some (c, h) := ix_lst (a :: b :: c :: r) 2 (by simp) h
theorem three {L : List Str} (h : L.length = 3) : ∃ w a b, L = [w, a, b] := by
  match L, h with
  | [w, a, b], _ => exact ⟨w, a, b, rfl⟩
def hP : Option (Int × Int) → PV
  | some (p, m) => .lst [.int p, .int m]
  | none => .non
def pP : Option (List Int × Int) → PV
  | some (vs, z) => .lst [.int z, .tup (vs.map .int)]
  | none => .non
def hT : Option (Int × Int) → PV
  | some (p, m) => .tup [.int p, .int m]
  | none => .non
def pcP (y : List Int × Int) : PV := .tup [.tup (y.1.map .int), .int y.2]
def pT : Option (List Int × Int) → PV
  | some y => pcP y
  | none => .non
theorem headF_ne {l : Str} (h : (Txt.split l " ").length ≠ 3) : headF l = none := by
  unfold headF
  split
  · rename_i e
    rw [e] at h
    exact absurd rfl h
  · rfl
theorem pieceF_ne {l : Str} (h : (Txt.split l " ").length ≠ 3) : pieceF l = none := by
  unfold pieceF
  split
  · rename_i e
    rw [e] at h
    exact absurd rfl h
  · rfl
theorem len_strs (L : List Str) (h : PH) : fLen [.lst (L.map PV.str)] h = some (.int (L.length : Int), h) := by simp [fLen, asQ, asL]
theorem behind_web {l : Str} (hl : l.length ≤ 1000000) (h : PH) : m_numbers_behind [.str l, .str "web", .int 1] h = .ok (hP (headF l)) h := by
  have sp := split_sp hl h
  have sl := split_len l " "
  have ln := len_strs (Txt.split l " ") h
  refine def_rt (h1 := h) rfl ?_ (outF_same rfl)
  show b_numbers_behind [some (.str l), some (.str "web"), some (.int 1), none, none] h = _
  unfold b_numbers_behind
  refine (seq_nx (ρ1 := [some (.str l), some (.str "web"), some (.int 1), some (.lst ((Txt.split l " ").map PV.str)), none]) (h1 := h) (by simp only [ev_mAsg, ev_mMt, mV, List.getElem?_cons_zero, ev_bind_ok, isT, isS, decide_true, Bool.and_self, Bool.true_or, if_true, ev_mCons, ev_mNil, ev_mC, sp, ev_opt_some, ev_st_ok, ev_asg_nm, List.set_cons_succ, List.set_cons_zero])).trans ?_
  by_cases h3 : (Txt.split l " ").length = 3
  · obtain ⟨w, a, b, e⟩ := three h3
    have la : a.length ≤ 1000000 := Nat.le_trans (sl a (by rw [e]; simp)) hl
    have lb : b.length ≤ 1000000 := Nat.le_trans (sl b (by rw [e]; simp)) hl
    have ea := number_eq la h
    have eb := number_eq lb h
    rw [e] at ln ⊢
    simp only [List.map_cons, List.map_nil] at ln ⊢
    by_cases hw : w = "web"
    · subst hw
      have hf : headF l = (numF a).bind fun p => (numF b).map fun m => (p, m) := by unfold headF; rw [e]; exact if_pos rfl
      have i1 := in_l [numF a, numF b] h
      simp only [List.map_cons, List.map_nil, List.any_cons, List.any_nil, Bool.or_false] at i1
      refine (seq_nx (ρ1 := [some (.str l), some (.str "web"), some (.int 1), some (.lst [.str "web", .str a, .str b]), none]) (h1 := h) (by simp [mV, ln, ix0])).trans ?_
      refine (seq_nx (ρ1 := [some (.str l), some (.str "web"), some (.int 1), some (.lst [.str "web", .str a, .str b]), some (.lst [oI_ (numF a), oI_ (numF b)])]) (h1 := h) (by simp [mV, ix1, ix2, ea, eb, sizeLine_eq])).trans ?_
      rw [hf]
      cases na : numF a with
      | none =>
        rw [na] at i1
        simp [mV, i1, hP]
      | some x =>
        cases nb : numF b with
        | none =>
          rw [na, nb] at i1
          simp [mV, i1, hP]
        | some y =>
          rw [na, nb] at i1
          simp [mV, i1, hP, oI_]
          simp only [oI_] at i1
          simp [i1]
    · have hf : headF l = none := by unfold headF; rw [e]; simp only [hw, if_false]
      rw [hf]
      refine seq_rt ?_
      simp [mV, ln, ix0, hw, hP]
  · rw [headF_ne h3]
    refine seq_rt ?_
    have hne : ¬ ((Txt.split l " ").length : Int) = 3 := by omega
    simp only [ev_mIfS, ev_tOr, ev_tB, ev_mBin, ev_mCallB, ev_mCons, ev_mNil, mV, List.getElem?_cons_succ, List.getElem?_cons_zero, ev_bind_ok, ln, ev_opt_some, ev_mC, fNe_int, hne, decide_false, Bool.not_false, ev_asB, if_true, ev_st_ok, ev_mRet]
    rfl
theorem behind_piece {l : Str} (hl : l.length ≤ 1000000) (h : PH) : m_numbers_behind [.str l, .str "piece", .int 0] h = .ok (pP (pieceF l)) h := by
  have sp := split_sp hl h
  have sl := split_len l " "
  have ln := len_strs (Txt.split l " ") h
  refine def_rt (h1 := h) rfl ?_ (outF_same rfl)
  show b_numbers_behind [some (.str l), some (.str "piece"), some (.int 0), none, none] h = _
  unfold b_numbers_behind
  refine (seq_nx (ρ1 := [some (.str l), some (.str "piece"), some (.int 0), some (.lst ((Txt.split l " ").map PV.str)), none]) (h1 := h) (by simp only [ev_mAsg, ev_mMt, mV, List.getElem?_cons_zero, ev_bind_ok, isT, isS, decide_true, Bool.and_self, Bool.true_or, if_true, ev_mCons, ev_mNil, ev_mC, sp, ev_opt_some, ev_st_ok, ev_asg_nm, List.set_cons_succ, List.set_cons_zero])).trans ?_
  by_cases h3 : (Txt.split l " ").length = 3
  · obtain ⟨w, a, b, e⟩ := three h3
    have la : a.length ≤ 1000000 := Nat.le_trans (sl a (by rw [e]; simp)) hl
    have lb : b.length ≤ 1000000 := Nat.le_trans (sl b (by rw [e]; simp)) hl
    have ea := number_eq la h
    have eb := numbers_eq lb h
    rw [e] at ln ⊢
    simp only [List.map_cons, List.map_nil] at ln ⊢
    by_cases hw : w = "piece"
    · subst hw
      have hf : pieceF l = (numF a).bind fun z => (numsF b).map fun vs => (vs, z) := by unfold pieceF; rw [e]; exact if_pos rfl
      refine (seq_nx (ρ1 := [some (.str l), some (.str "piece"), some (.int 0), some (.lst [.str "piece", .str a, .str b]), none]) (h1 := h) (by simp [mV, ln, ix0])).trans ?_
      refine (seq_nx (ρ1 := [some (.str l), some (.str "piece"), some (.int 0), some (.lst [.str "piece", .str a, .str b]), some (.lst [oI_ (numF a), oT_ (numsF b)])]) (h1 := h) (by simp [mV, ix1, ix2, ea, eb, sizeLine_eq])).trans ?_
      rw [hf]
      cases nb : numsF b with
      | none =>
        have i1 := in_l [numF a, none] h
        simp only [List.map_cons, List.map_nil, List.any_cons, List.any_nil, Bool.or_false, Option.isNone_none, Bool.or_true, show oI_ none = PV.non from rfl] at i1
        have en : ((numF a).bind fun z => Option.map (fun vs => (vs, z)) (none : Option (List Int))) = none := by cases numF a <;> rfl
        rw [en]
        simp only [oT_]
        simp [mV, i1, pP]
      | some vs =>
        have i1 := in_lt (numF a) vs h
        cases na : numF a with
        | none =>
          rw [na] at i1
          simp only [oT_]
          simp only [Option.isNone_none] at i1
          simp [mV, i1, pP]
        | some x =>
          rw [na] at i1
          simp only [oT_]
          simp only [Option.isNone_some] at i1
          simp [mV, i1, pP, oI_]
          simp only [oI_] at i1
          simp [i1]
    · have hf : pieceF l = none := by unfold pieceF; rw [e]; simp only [hw, if_false]
      rw [hf]
      refine seq_rt ?_
      simp [mV, ln, ix0, hw, pP]
  · rw [pieceF_ne h3]
    refine seq_rt ?_
    have hne : ¬ ((Txt.split l " ").length : Int) = 3 := by omega
    simp only [ev_mIfS, ev_tOr, ev_tB, ev_mBin, ev_mCallB, ev_mCons, ev_mNil, mV, List.getElem?_cons_succ, List.getElem?_cons_zero, ev_bind_ok, ln, ev_opt_some, ev_mC, fNe_int, hne, decide_false, Bool.not_false, ev_asB, if_true, ev_st_ok, ev_mRet]
    rfl
theorem wd0 (h : PH) : fInt [.bl (decide ((0 : Int) = 0))] h = some (.int 1, h) := by simp [fInt, orC, fInt1]
theorem lline_head {l : Str} (hl : l.length ≤ 1000000) (h : PH) : m__law_line [.str l, .int 0] h = .ok (hT (headF l)) h := by
  have sp := split_sp hl h
  have sl := split_len l " "
  have ln := len_strs (Txt.split l " ") h
  refine def_rt (h1 := h) rfl ?_ (outF_same rfl)
  show b__law_line [some (.str l), some (.int 0), none, none, none, none, none] h = _
  unfold b__law_line
  refine (seq_nx (ρ1 := [some (.str l), some (.int 0), some (.lst ((Txt.split l " ").map PV.str)), none, none, none, none]) (h1 := h) (by simp only [ev_mAsg, ev_mMt, mV, List.getElem?_cons_zero, ev_bind_ok, isT, isS, decide_true, Bool.and_self, Bool.true_or, if_true, ev_mCons, ev_mNil, ev_mC, sp, ev_opt_some, ev_st_ok, ev_asg_nm, List.set_cons_succ, List.set_cons_zero])).trans ?_
  by_cases h3 : (Txt.split l " ").length = 3
  · obtain ⟨w, a, b, e⟩ := three h3
    have la : a.length ≤ 1000000 := Nat.le_trans (sl a (by rw [e]; simp)) hl
    have lb : b.length ≤ 1000000 := Nat.le_trans (sl b (by rw [e]; simp)) hl
    have ea := lnumber_eq la h
    have eb := lnumber_eq lb h
    rw [e] at ln ⊢
    simp only [List.map_cons, List.map_nil] at ln ⊢
    by_cases hw : w = "web"
    · subst hw
      have hf : headF l = (numF a).bind fun p => (numF b).map fun m => (p, m) := by unfold headF; rw [e]; exact if_pos rfl
      refine (seq_nx (ρ1 := [some (.str l), some (.int 0), some (.lst [.str "web", .str a, .str b]), none, none, none, none]) (h1 := h) (by simp [mV, ln, ix0, ix1, fInt, orC, fInt1, sizeLine_eq])).trans ?_
      refine (seq_nx (ρ1 := [some (.str l), some (.int 0), some (.lst [.str "web", .str a, .str b]), some (oI_ (numF a)), none, none, none]) (h1 := h) (by simp [mV, ix1, ea])).trans ?_
      rw [hf]
      cases na : numF a with
      | none =>
        refine seq_rt ?_
        simp [mV, hT, oI_, fIsN, isN]
      | some x =>
        refine (seq_nx (ρ1 := [some (.str l), some (.int 0), some (.lst [.str "web", .str a, .str b]), some (oI_ (some x)), none, none, none]) (h1 := h) (by simp [mV, oI_, fIsN, isN])).trans ?_
        refine seq_rt ?_
        cases nb : numF b with
        | none =>
          rw [nb] at eb
          simp [mV, ix2, eb, oI_, fIsN, isN, hT]
        | some y =>
          rw [nb] at eb
          simp [mV, ix2, eb, oI_, fIsN, isN, hT, sizeLine_eq]
    · have hf : headF l = none := by unfold headF; rw [e]; simp only [hw, if_false]
      rw [hf]
      refine seq_rt ?_
      simp [mV, ln, ix0, ix1, hw, fInt, orC, fInt1, sizeLine_eq, hT]
  · rw [headF_ne h3]
    refine seq_rt ?_
    have hne : ¬ ((Txt.split l " ").length : Int) = 3 := by omega
    simp only [ev_mIfS, ev_tOr, ev_tB, ev_mBin, ev_mCallB, ev_mCons, ev_mNil, mV, List.getElem?_cons_succ, List.getElem?_cons_zero, ev_bind_ok, ln, ev_opt_some, ev_mC, fNe_int, hne, decide_false, Bool.not_false, ev_asB, if_true, ev_st_ok, ev_mRet]
    rfl
theorem lline_piece {l : Str} (hl : l.length ≤ 1000000) (k : Int) (hk : k ≠ 0) (h : PH) : m__law_line [.str l, .int k] h = .ok (pT (pieceF l)) h := by
  have sp := split_sp hl h
  have sl := split_len l " "
  have ln := len_strs (Txt.split l " ") h
  refine def_rt (h1 := h) rfl ?_ (outF_same rfl)
  show b__law_line [some (.str l), some (.int k), none, none, none, none, none] h = _
  unfold b__law_line
  refine (seq_nx (ρ1 := [some (.str l), some (.int k), some (.lst ((Txt.split l " ").map PV.str)), none, none, none, none]) (h1 := h) (by simp only [ev_mAsg, ev_mMt, mV, List.getElem?_cons_zero, ev_bind_ok, isT, isS, decide_true, Bool.and_self, Bool.true_or, if_true, ev_mCons, ev_mNil, ev_mC, sp, ev_opt_some, ev_st_ok, ev_asg_nm, List.set_cons_succ, List.set_cons_zero])).trans ?_
  by_cases h3 : (Txt.split l " ").length = 3
  · obtain ⟨w, a, b, e⟩ := three h3
    have la : a.length ≤ 1000000 := Nat.le_trans (sl a (by rw [e]; simp)) hl
    have lb : b.length ≤ 1000000 := Nat.le_trans (sl b (by rw [e]; simp)) hl
    have ea := lnumber_eq la h
    rw [e] at ln ⊢
    simp only [List.map_cons, List.map_nil] at ln ⊢
    by_cases hw : w = "piece"
    · subst hw
      have hf : pieceF l = (numF a).bind fun z => (numsF b).map fun vs => (vs, z) := by unfold pieceF; rw [e]; exact if_pos rfl
      refine (seq_nx (ρ1 := [some (.str l), some (.int k), some (.lst [.str "piece", .str a, .str b]), none, none, none, none]) (h1 := h) (by simp [mV, ln, ix0, ix1, hk, fInt, orC, fInt1, sizeLine_eq])).trans ?_
      refine (seq_nx (ρ1 := [some (.str l), some (.int k), some (.lst [.str "piece", .str a, .str b]), some (oI_ (numF a)), none, none, none]) (h1 := h) (by simp [mV, ix1, ea])).trans ?_
      rw [hf]
      cases na : numF a with
      | none =>
        refine seq_rt ?_
        simp [mV, pT, oI_, fIsN, isN]
      | some x =>
        refine (seq_nx (ρ1 := [some (.str l), some (.int k), some (.lst [.str "piece", .str a, .str b]), some (oI_ (some x)), none, none, none]) (h1 := h) (by simp [mV, oI_, fIsN, isN])).trans ?_
        refine (seq_nx (ρ1 := [some (.str l), some (.int k), some (.lst [.str "piece", .str a, .str b]), some (oI_ (some x)), none, none, none]) (h1 := h) (by simp [mV, hk])).trans ?_
        have lc := nums_core lb h m__law_number (fun z hz => lnumber_eq hz h) [6] 6 (mBin fIx (mV 2) (mC (.int 2))) [some (.str l), some (.int k), some (.lst [.str "piece", .str a, .str b]), some (oI_ (some x)), none, none, none] [some (.str l), some (.int k), some (.lst [.str "piece", .str a, .str b]), some (oI_ (some x)), none, none, none]
          (by simp [mV, ix2]) (by simp) rfl rfl
        refine (seq_nx (ρ1 := [some (.str l), some (.int k), some (.lst [.str "piece", .str a, .str b]), some (oI_ (some x)), none, some (.lst (((Txt.split b ",").map numF).map oI_)), none]) (h1 := h) (by simp only [ev_mAsg, lc, ev_st_ok, ev_asg_nm, List.set_cons_succ, List.set_cons_zero])).trans ?_
        have i1 := in_l ((Txt.split b ",").map numF) h
        rw [any_none] at i1
        have eb : numsF b = optAll ((Txt.split b ",").map numF) := rfl
        have tp : fTuple [.lst (((Txt.split b ",").map numF).map oI_)] h = some (.tup (((Txt.split b ",").map numF).map oI_), h) := by simp [fTuple, asQ, asL]
        cases eo : optAll ((Txt.split b ",").map numF) with
        | none =>
          rw [eo] at i1 eb
          rw [eb]
          refine seq_rt ?_
          simp only [ev_mIfS, ev_mRet, ev_tB, ev_mBin, ev_mC, mV, List.getElem?_cons_succ, List.getElem?_cons_zero, ev_bind_ok, i1, ev_opt_some, ev_asB, Option.isNone_none, if_true, ev_st_ok]
          rfl
        | some vs =>
          have es := optAll_some eo
          rw [eo] at i1 eb
          rw [eb]
          refine (seq_nx (ρ1 := [some (.str l), some (.int k), some (.lst [.str "piece", .str a, .str b]), some (oI_ (some x)), none, some (.lst (((Txt.split b ",").map numF).map oI_)), none]) (h1 := h) (by simp only [ev_mIfS, ev_mPass, ev_tB, ev_mBin, ev_mC, mV, List.getElem?_cons_succ, List.getElem?_cons_zero, ev_bind_ok, i1, ev_opt_some, ev_asB, Option.isNone_some, Bool.false_eq_true, if_false, ev_st_ok])).trans ?_
          have z2 : (2 : Nat) ≤ sizeLine := by rw [sizeLine_eq]; decide
          simp only [ev_mRet, ev_mTup, ev_mCallB, ev_mCons, ev_mNil, mV, List.getElem?_cons_succ, List.getElem?_cons_zero, ev_bind_ok, tp, ev_opt_some, List.length_cons, List.length_nil, Nat.zero_add, Nat.reduceAdd, z2, if_true, ev_st_ok]
          rw [es, List.map_map]
          rfl
    · have hf : pieceF l = none := by unfold pieceF; rw [e]; simp only [hw, if_false]
      rw [hf]
      refine seq_rt ?_
      simp [mV, ln, ix0, ix1, hw, hk, fInt, orC, fInt1, sizeLine_eq, pT]
  · rw [pieceF_ne h3]
    refine seq_rt ?_
    have hne : ¬ ((Txt.split l " ").length : Int) = 3 := by omega
    simp only [ev_mIfS, ev_tOr, ev_tB, ev_mBin, ev_mCallB, ev_mCons, ev_mNil, mV, List.getElem?_cons_succ, List.getElem?_cons_zero, ev_bind_ok, ln, ev_opt_some, ev_mC, fNe_int, hne, decide_false, Bool.not_false, ev_asB, if_true, ev_st_ok, ev_mRet]
    rfl
end Ev
set_option maxHeartbeats 4000000
/-! Q3: primes, pieces, the web made. -/
namespace Ev
open PySem PySem.Spec PyProof.Rows L2
theorem range2_int (i j : Int) (h0 : 0 ≤ i) (h1 : i < 1000000000) (h2 : 0 ≤ j) (h3 : j < 1000000000) (h : PH) : itRange2 [.int i, .int j] h = .ok ⟨(List.range (j - i).toNat).map fun k => .int (i + (k : Nat)), fun _ => true⟩ h := by
  have rg : -(2 ^ 62 : Int) ≤ i ∧ i < 2 ^ 62 ∧ -(2 ^ 62 : Int) ≤ j ∧ j < 2 ^ 62 := ⟨by omega, by omega, by omega, by omega⟩
  unfold itRange2
  exact if_pos rg
/-- a comprehension with a test, all parts pure -/
theorem compL_filter {α : Type} {chk : PH → Bool} {t : Tg} {tt : TMm} {me : EM} {ρ : Ro} {h : PH} (hc : chk h = true) (i : α → PV) (c : α → Bool) (g : α → PV) :
    ∀ (xs : List α) (acc : List PV), (∀ x ∈ xs, ∃ ρ1, asg t (i x) ρ = some ρ1 ∧ tt ρ1 h = .ok (c x) h ∧ (c x = true → me ρ1 h = .ok (g x) h)) → acc.length + xs.length ≤ sizeLine → compL chk t tt me ρ (xs.map i) acc h = .ok (acc ++ (xs.filter c).map g) h
  | [], acc, _, _ => by simp [compL, hc]
  | x :: xs, acc, hx, hl => by
    obtain ⟨ρ1, e1, e2, e3⟩ := hx x List.mem_cons_self
    have hl' : acc.length < sizeLine := by simp at hl; omega
    have ih := fun acc' (q : acc'.length + xs.length ≤ sizeLine) => compL_filter hc i c g xs acc' (fun y hy => hx y (List.mem_cons_of_mem _ hy)) q
    cases k : c x with
    | true =>
      rw [k] at e2 e3
      simp only [List.map_cons, compL, hc, if_true, e1, e2, noEx, Out.bind, e3 rfl, hl']
      rw [ih (acc ++ [g x]) (by simp at hl ⊢; omega), List.filter_cons_of_pos k]
      simp
    | false =>
      rw [k] at e2
      simp only [List.map_cons, compL, hc, if_true, e1, e2, noEx, Out.bind, Bool.false_eq_true, if_false]
      rw [ih acc (by simp at hl ⊢; omega), List.filter_cons_of_neg (by rw [k]; exact Bool.false_ne_true)]
theorem mLc_filter {α : Type} {b : Bool} {own : List Nat} {mi : IMm} {t : Tg} {tt : TMm} {me : EM} {ρ : Ro} {h : PH} {s : Its} (i : α → PV) (c : α → Bool) (g : α → PV) (xs : List α) (hi : mi ρ h = .ok s h) (hs : s.items = xs.map i) (hc : s.chk h = true)
    (hx : ∀ x ∈ xs, ∃ ρ1, asg t (i x) (wipeR ρ own) = some ρ1 ∧ tt ρ1 h = .ok (c x) h ∧ (c x = true → me ρ1 h = .ok (g x) h)) (hl : xs.length ≤ sizeLine) : mLc b own mi t tt me ρ h = .ok (newL b ((xs.filter c).map g) h).1 (newL b ((xs.filter c).map g) h).2 := by
  unfold mLc
  rw [hi]
  simp only [Out.bind]
  rw [hs, compL_filter hc i c g xs [] hx (by simpa using hl)]
  rfl
theorem fMul2_int {i j : Int} (c : cMul i j = true) (b : Bool) (h : PH) : fMul2 b (.int i) (.int j) h = some (.int (i * j), h) := by
  simp [fMul2, fMul, orF, fIc, c]
/-! ### primes -/
def primeB (p : Int) : Bool := decide (2 ≤ p) && decide (p ≤ 251) && (List.range (p - 2).toNat).all fun k => decide (p % (2 + (k : Int)) ≠ 0)
theorem prime_eq (p : Int) (h : PH) : m_is_prime [.int p] h = .ok (.bl (primeB p)) h := by
  have w := within_eq (p := .int p) (h := h) (lo := 2) (hi := 251) rfl
  refine def_rt (h1 := h) (v := .bl (primeB p)) rfl ?_ (outF_same rfl)
  show b_is_prime [some (.int p), none] h = _
  unfold b_is_prime
  have ew : inIv (.int p) 2 251 = (decide (2 ≤ p) && decide (p ≤ 251)) := rfl
  cases hb : (decide (2 ≤ p) && decide (p ≤ 251)) with
  | false =>
    rw [ew, hb] at w
    have e : primeB p = false := by unfold primeB; rw [hb]; rfl
    refine seq_rt ?_
    rw [e]
    simp [mV, w]
  | true =>
    rw [ew, hb] at w
    obtain ⟨g1, g2⟩ := Bool.and_eq_true_iff.mp hb
    have g1 := of_decide_eq_true g1
    have g2 := of_decide_eq_true g2
    refine (seq_nx (ρ1 := [some (.int p), none]) (h1 := h) (by simp [mV, w])).trans ?_
    have ei : mCons (mC (.int 2)) (mCons (mV 0) mNil) [some (.int p), none] h = .ok [.int 2, .int p] h := by simp [mV]
    have it := mItA_eq (f := itRange2) ei
    rw [range2_int 2 p (by decide) (by decide) (by omega) (by omega)] at it
    have lc := mLc_pure (b := false) (own := [1]) (mi := mItA itRange2 (mCons (mC (.int 2)) (mCons (mV 0) mNil))) (t := .nm 1) (me := mBin fNe (mBin fModI (mV 0) (mV 1)) (mC (.int 0))) (ρ := [some (.int p), none]) (h := h)
      (fun k : Nat => .int (2 + (k : Int))) (fun k => .bl (decide (p % (2 + (k : Int)) ≠ 0))) (List.range (p - 2).toNat) it rfl rfl
      (fun k _ => ⟨_, rfl, by
        have c : cPos p (2 + (k : Int)) = true := cPos_ok (by omega)
        simp [mV, wipeR, fIc, c]⟩) (by rw [List.length_range, sizeLine_eq]; omega)
    have ea := fAll_bl (fun k : Nat => decide (p % (2 + (k : Int)) ≠ 0)) (List.range (p - 2).toNat) h
    have e : primeB p = (List.range (p - 2).toNat).all fun k => decide (p % (2 + (k : Int)) ≠ 0) := by unfold primeB; rw [hb, Bool.true_and]
    rw [e]
    simp only [ev_mRet, ev_mCallB, ev_mCons, ev_mNil, lc, ev_bind_ok, ev_newL_f, ea, ev_opt_some, ev_st_ok]
def lawD (p : Int) (j : Nat) : Bool := decide (2 + (j : Int) < p) && decide (p - (2 + (j : Int)) * (p / (2 + (j : Int))) = 0)
def lawP (p : Int) : Bool := decide ((((List.range 14).filter (lawD p)).length : Int) = 0)
def primesN : List Nat := (List.range 250).filter fun k => lawP (2 + (k : Int))
def primesL : List Int := primesN.map fun k : Nat => 2 + (k : Int)
theorem fDivI_int {i j : Int} (c : cDiv i j = true) (h : PH) : fDivI (.int i) (.int j) h = some (.int (i / j), h) := by
  simp [fIc, c]
theorem fModI_int {i j : Int} (c : cPos i j = true) (h : PH) : fModI (.int i) (.int j) h = some (.int (i % j), h) := by
  simp [fIc, c]
theorem div_test (p d : Int) (h0 : 0 < d) (h1 : d < 100) (h : PH) :
    (tAnd_ (tB_ (mBin fLt (mV 1) (mV 0))) (tB_ (mBin fEq (mBin fSubI (mV 0) (mBin (fMul2 false) (mV 1) (mBin fDivI (mV 0) (mV 1)))) (mC (.int 0))))) [some (.int p), some (.int d)] h = .ok (decide (d < p) && decide (p - d * (p / d) = 0)) h := by
  have c1 := fDivI_int (i := p) (j := d) (cDiv_ok h0 (by omega)) h
  have c2 := fMul2_int (i := d) (j := p / d) (cMul_l ⟨by omega, by omega⟩) false h
  have l1 : fLt (.int d) (.int p) h = some (.bl (decide (d < p)), h) := rfl
  have s1 : fSubI (.int p) (.int (d * (p / d))) h = some (.int (p - d * (p / d)), h) := rfl
  simp only [ev_tAnd, ev_tB, ev_mBin, mV, List.getElem?_cons_succ, List.getElem?_cons_zero, ev_bind_ok, l1, ev_opt_some, ev_asB, c1, c2, s1, ev_mC, fEq_int]
  cases decide (d < p) <;> simp
theorem primes_eq (h : PH) : m__law_primes [] h = .ok (.lst (primesL.map PV.int)) h := by
  refine def_rt (h1 := h) (v := .lst (primesL.map PV.int)) rfl ?_ (outF_same rfl)
  show b__law_primes [none, none] h = _
  unfold b__law_primes
  have ei : mCons (mC (.int 2)) (mCons (mC (.int 252)) mNil) [none, none] h = .ok [.int 2, .int 252] h := by simp
  have it := mItA_eq (f := itRange2) ei
  rw [range2_int 2 252 (by omega) (by omega) (by omega) (by omega), show ((252 : Int) - 2).toNat = 250 from rfl] at it
  have lc := mLc_filter (b := false) (own := [0]) (mi := mItA itRange2 (mCons (mC (.int 2)) (mCons (mC (.int 252)) mNil))) (t := .nm 0)
    (tt := tB_ (mBin fEq (mCallB fLen (mCons (mLc false [1] (mItA itRange2 (mCons (mC (.int 2)) (mCons (mC (.int 16)) mNil))) (.nm 1) (tAnd_ (tB_ (mBin fLt (mV 1) (mV 0))) (tB_ (mBin fEq (mBin fSubI (mV 0) (mBin (fMul2 false) (mV 1) (mBin fDivI (mV 0) (mV 1)))) (mC (.int 0))))) (mV 1)) mNil)) (mC (.int 0))))
    (me := mV 0) (ρ := [none, none]) (h := h) (fun k : Nat => .int (2 + (k : Int))) (fun k => lawP (2 + (k : Int))) (fun k => .int (2 + (k : Int))) (List.range 250) it rfl rfl
    (fun k hk => ⟨[some (.int (2 + (k : Int))), none], rfl, by
      have hk' := List.mem_range.mp hk
      have ei2 : mCons (mC (.int 2)) (mCons (mC (.int 16)) mNil) [some (PV.int (2 + (k : Int))), none] h = .ok [.int 2, .int 16] h := by simp
      have it2 := mItA_eq (f := itRange2) ei2
      rw [range2_int 2 16 (by omega) (by omega) (by omega) (by omega), show ((16 : Int) - 2).toNat = 14 from rfl] at it2
      have lc2 := mLc_filter (b := false) (own := [1]) (mi := mItA itRange2 (mCons (mC (.int 2)) (mCons (mC (.int 16)) mNil))) (t := .nm 1)
        (tt := tAnd_ (tB_ (mBin fLt (mV 1) (mV 0))) (tB_ (mBin fEq (mBin fSubI (mV 0) (mBin (fMul2 false) (mV 1) (mBin fDivI (mV 0) (mV 1)))) (mC (.int 0)))))
        (me := mV 1) (ρ := [some (PV.int (2 + (k : Int))), none]) (h := h) (fun j : Nat => .int (2 + (j : Int))) (lawD (2 + (k : Int))) (fun j => .int (2 + (j : Int))) (List.range 14) it2 rfl rfl
        (fun j hj => ⟨[some (PV.int (2 + (k : Int))), some (.int (2 + (j : Int)))], rfl, by
          have hj' := List.mem_range.mp hj
          exact div_test (2 + (k : Int)) (2 + (j : Int)) (by omega) (by omega) h, fun _ => rfl⟩) (by rw [List.length_range, sizeLine_eq]; decide)
      have ln : fLen [.lst (((List.range 14).filter (lawD (2 + (k : Int)))).map fun j : Nat => PV.int (2 + (j : Int)))] h = some (.int (((List.range 14).filter (lawD (2 + (k : Int)))).length : Int), h) := by simp [fLen, asQ, asL]
      simp only [ev_tB, ev_mBin, ev_mCallB, ev_mCons, ev_mNil, lc2, ev_bind_ok, ev_newL_f, ln, ev_opt_some, ev_mC, fEq_int, ev_asB]
      rfl, fun _ => rfl⟩) (by rw [List.length_range, sizeLine_eq]; decide)
  simp only [ev_mRet, lc, ev_newL_f, ev_st_ok]
  have e : (List.filter (fun k : Nat => lawP (2 + (k : Int))) (List.range 250)).map (fun k : Nat => PV.int (2 + (k : Int))) = primesL.map PV.int := by
    unfold primesL primesN
    rw [List.map_map]
    rfl
  rw [e]
theorem toVs_ints : ∀ vs : List Int, toVs (vs.map PV.int) = some (vs.map V.int)
  | [] => rfl
  | v :: vs => by simp only [List.map_cons, toVs, toV, toVs_ints vs]
theorem inV_ints (p : Int) : ∀ vs : List Int, inV (.int p) (vs.map V.int) = vs.any fun y => y == p
  | [] => rfl
  | v :: vs => by
    have ih := inV_ints p vs
    unfold inV at ih ⊢
    rw [List.map_cons, List.any_cons, ih, List.any_cons]
    rfl
theorem notin_ints (p : Int) (vs : List Int) (h : PH) : fIn2 true (.int p) (.lst (vs.map PV.int)) h = some (.bl (!vs.any fun y => y == p), h) := by
  simp only [fIn2, fIn, orF, fInS, fInQ, toV, asQ, asL, Option.bind, toVs_ints, inV_ints]
  rfl
theorem primes_in : ∀ k : Fin 250, (primesL.any fun y => y == 2 + (k.val : Int)) = primeB (2 + (k.val : Int)) := by decide +kernel
theorem primes_range : ∀ q ∈ primesL, 2 ≤ q ∧ q ≤ 251 := fun q hq => by
  obtain ⟨k, hk, rfl⟩ := List.mem_map.mp hq
  have := List.mem_range.mp (List.mem_filter.mp hk).1
  omega
theorem primes_any (p : Int) : (primesL.any fun y => y == p) = primeB p := by
  by_cases h1 : 2 ≤ p
  · by_cases h2 : p ≤ 251
    · have e := primes_in ⟨(p - 2).toNat, by omega⟩
      have ep : 2 + (((p - 2).toNat : Nat) : Int) = p := by omega
      simp only [ep] at e
      exact e
    · have e1 : primeB p = false := by simp [primeB, h2]
      rw [e1]
      refine List.any_eq_false.mpr fun q hq => ?_
      have := primes_range q hq
      simp
      omega
  · have e1 : primeB p = false := by simp [primeB, h1]
    rw [e1]
    refine List.any_eq_false.mpr fun q hq => ?_
    have := primes_range q hq
    simp
    omega
theorem prime_iff {p : Int} (h : primeB p = true) : 2 ≤ p ∧ p ≤ 251 := by
  unfold primeB at h
  obtain ⟨h1, _⟩ := Bool.and_eq_true_iff.mp h
  obtain ⟨h1, h2⟩ := Bool.and_eq_true_iff.mp h1
  exact ⟨of_decide_eq_true h1, of_decide_eq_true h2⟩
end Ev
set_option maxHeartbeats 4000000
/-! Q4: sums, pieces, the web made, what is bad of it. -/
namespace Ev
open PySem PySem.Spec PyProof.Rows L2
theorem fAny_bl {α : Type} (g : α → Bool) (xs : List α) (h : PH) : fAny [.lst (xs.map fun x => .bl (g x))] h = some (.bl (xs.any g), h) := by
  have e : (xs.map fun x => PV.bl (g x)) = (xs.map g).map PV.bl := by rw [List.map_map]; rfl
  simp only [fAny, asL, Option.bind, e, asBs_map, Option.map]
  rw [List.any_map]
  rfl
def sumB (p : Int) (vs : List Int) : Bool := decide (1 ≤ vs.length) && decide (vs.length ≤ 10) && (vs.all (fun v => inIv (.int v) 0 (p - 1)) && vs.any fun v => decide (v ≠ 0))
theorem len_ints (vs : List Int) (h : PH) : fLen [.tup (vs.map PV.int)] h = some (.int (vs.length : Int), h) := by simp [fLen, asQ, asL, asT]
theorem sum_eq (p : Int) (vs : List Int) (h : PH) : m_is_sum [.int p, .tup (vs.map PV.int)] h = .ok (.bl (sumB p vs)) h := by
  have ln := len_ints vs h
  have is : fIsi [.tup (vs.map PV.int), .ty "tuple"] h = some (.bl true, h) := by simp [fIsi, tyN]
  refine def_rt (h1 := h) (v := .bl (sumB p vs)) rfl ?_ (outF_same rfl)
  show b_is_sum [some (.int p), some (.tup (vs.map PV.int)), none] h = _
  unfold b_is_sum
  by_cases h1 : 1 ≤ vs.length
  · have k1 : (1 : Int) ≤ vs.length := by omega
    by_cases h2 : vs.length ≤ 10
    · have k2 : (vs.length : Int) ≤ 10 := by omega
      refine (seq_nx (ρ1 := [some (.int p), some (.tup (vs.map PV.int)), none]) (h1 := h) (by simp [mV, is, ln, fI, k1, k2])).trans ?_
      have lc := mLc_pure (b := false) (own := [2]) (mi := mIt (mV 1)) (t := .nm 2) (me := mCall m_is_within (mCons (mV 2) (mCons (mC (.int 0)) (mCons (mBin fSubI (mV 0) (mC (.int 1))) mNil)))) (ρ := [some (.int p), some (.tup (vs.map PV.int)), none]) (h := h) (s := ⟨vs.map PV.int, fun _ => true⟩)
        PV.int (fun v => .bl (inIv (.int v) 0 (p - 1))) vs rfl rfl rfl (fun v _ => ⟨[some (.int p), some (.tup (vs.map PV.int)), some (.int v)], rfl, by
          have w := within_eq (p := .int v) (h := h) (lo := 0) (hi := p - 1) rfl
          simp [mV, fI, w]⟩) (by rw [sizeLine_eq]; omega)
      have lc2 := mLc_pure (b := false) (own := [2]) (mi := mIt (mV 1)) (t := .nm 2) (me := mBin fNe (mV 2) (mC (.int 0))) (ρ := [some (.int p), some (.tup (vs.map PV.int)), none]) (h := h) (s := ⟨vs.map PV.int, fun _ => true⟩)
        PV.int (fun v => .bl (decide (v ≠ 0))) vs rfl rfl rfl (fun v _ => ⟨[some (.int p), some (.tup (vs.map PV.int)), some (.int v)], rfl, by simp [mV]⟩) (by rw [sizeLine_eq]; omega)
      have ea := fAll_bl (fun v => inIv (.int v) 0 (p - 1)) vs h
      have eb := fAny_bl (fun v : Int => decide (v ≠ 0)) vs h
      have e : sumB p vs = (vs.all (fun v => inIv (.int v) 0 (p - 1)) && vs.any fun v => decide (v ≠ 0)) := by simp [sumB, h1, h2]
      rw [e]
      cases hA : vs.all fun v => inIv (.int v) 0 (p - 1) with
      | true =>
        rw [hA] at ea
        simp only [ev_mRet, ev_mAnd, ev_mCallB, ev_mCons, ev_mNil, lc, lc2, ev_bind_ok, ev_newL_f, ea, eb, ev_opt_some, ev_asB, if_true, ev_st_ok, Bool.true_and]
      | false =>
        rw [hA] at ea
        simp only [ev_mRet, ev_mAnd, ev_mCallB, ev_mCons, ev_mNil, lc, ev_bind_ok, ev_newL_f, ea, ev_opt_some, ev_asB, Bool.false_eq_true, if_false, ev_st_ok, Bool.false_and]
    · have k2 : ¬ (vs.length : Int) ≤ 10 := by omega
      have e : sumB p vs = false := by simp [sumB, h2]
      rw [e]
      exact seq_rt (by simp [mV, is, ln, fI, k1, k2])
  · have k1 : ¬ (1 : Int) ≤ vs.length := by omega
    have e : sumB p vs = false := by simp [sumB, h1]
    rw [e]
    exact seq_rt (by simp [mV, is, ln, fI, k1])
def pieceB (p m : Int) (y : List Int × Int) : Bool := sumB p y.1 && (decide ((y.1.length : Int) = m) && inIv (.int y.2) 1 1000000)
theorem piece_eq (p m : Int) (y : List Int × Int) (h : PH) : m_is_piece [.int p, .int m, pcP y] h = .ok (.bl (pieceB p m y)) h := by
  have e1 := pair_eq (p := pcP y) (h := h) rfl
  have e2 := sum_eq p y.1 h
  have e3 := len_ints y.1 h
  have e4 := within_eq (p := .int y.2) (h := h) (lo := 1) (hi := 1000000) rfl
  have i0 := tix0 (.tup (y.1.map PV.int)) [.int y.2] h
  have i1 := tix1 (.tup (y.1.map PV.int)) (.int y.2) [] h
  simp only [pcP, List.length_cons, List.length_nil, Nat.zero_add, Nat.reduceAdd, decide_true] at e1
  refine def_rt (h1 := h) (v := .bl (pieceB p m y)) rfl ?_ (outF_same rfl)
  show b_is_piece [some (.int p), some (.int m), some (pcP y)] h = _
  unfold b_is_piece pieceB pcP
  simp only [ev_mRet, ev_mAnd, ev_mCall, ev_mCons, ev_mNil, ev_mBin, ev_mCallB, ev_mC, mV, List.getElem?_cons_succ, List.getElem?_cons_zero, ev_bind_ok, e1, e2, e3, e4, i0, i1, ev_opt_some, ev_asB, if_true, fEq_int]
  cases sumB p y.1 <;> cases decide ((y.1.length : Int) = m) <;> simp [e4]
def firstBad (p m : Int) : List (List Int × Int) → Nat → Option Nat
  | [], _ => none
  | y :: ys, k => if pieceB p m y then firstBad p m ys (k + 1) else some k
def badW (p m : Int) (ys : List (List Int × Int)) : Option PV :=
  if primeB p = false then some (.str "prime") else if inIv (.int m) 1 10 = false then some (.str "many") else if 40 < ys.length then some (.str "pieces") else (firstBad p m ys 0).map fun k => .int (k : Nat)
def webI (p m : Int) (ys : List (List Int × Int)) : List PV := [.int p, .int m, .tup (ys.map pcP)]
def fsW : List Str := ["prime", "many", "pieces"]
theorem init_loop (n : Nat) (p m : Int) (T : PV) (h : PH) : ∀ (ys : List (List Int × Int)) (k : Nat) (a b : Option PV),
    ∃ (a' b' : Option PV), forL (fun _ => true) (.tp [.nm 4, .nm 5]) (mIfS (tNot_ (tB_ (mCall m_is_piece (mCons (mV 1) (mCons (mV 2) (mCons (mV 5) mNil)))))) (X_part.mRaise "BadWeb" (mCons (mV 4) mNil)) mPass) (enumFrom k (ys.map pcP)) [some (.ref n), some (.int p), some (.int m), some T, a, b] h =
      (match firstBad p m ys k with
        | none => .nx [some (.ref n), some (.int p), some (.int m), some T, a', b'] h
        | some j => .ex "BadWeb" ["part"] [.int (j : Nat)] [some (.ref n), some (.int p), some (.int m), some T, a', b'] h)
  | [], k, a, b => ⟨a, b, by simp [forL, enumFrom, firstBad]⟩
  | y :: ys, k, a, b => by
    have e := piece_eq p m y h
    cases hp : pieceB p m y with
    | true =>
      rw [hp] at e
      obtain ⟨a', b', ih⟩ := init_loop n p m T h ys (k + 1) (some (.int k)) (some (pcP y))
      refine ⟨a', b', ?_⟩
      simp only [firstBad, hp, if_true]
      rw [← ih]
      simp [forL, enumFrom, mV, asg, asgs, asT, e]
    | false =>
      rw [hp] at e
      refine ⟨some (.int k), some (pcP y), ?_⟩
      simp only [firstBad, hp, Bool.false_eq_true, if_false]
      simp [forL, enumFrom, mV, asg, asgs, asT, e, X_part.mRaise, PySem.FldX_part.fld]
theorem init_eq (n : Nat) (p m : Int) (ys : List (List Int × Int)) (h : PH) (hn : h[n]? = some (.ins "Web" [] [])) :
    m_Web___init__ [.ref n, .int p, .int m, .tup (ys.map pcP)] h = (match badW p m ys with
      | none => .ok .non (h.set n (.ins "Web" fsW (webI p m ys)))
      | some v => .ex "BadWeb" ["part"] [v] h) := by
  have e1 := prime_eq p h
  have e2 := within_eq (p := .int m) (h := h) (lo := 1) (hi := 10) rfl
  have is : fIsi [.tup (ys.map pcP), .ty "tuple"] h = some (.bl true, h) := by simp [fIsi, tyN]
  have ln : fLen [.tup (ys.map pcP)] h = some (.int (ys.length : Int), h) := by simp [fLen, asQ, asL, asT]
  have raise : ∀ (v : PV) (ρ : Ro), X_part.mRaise "BadWeb" (mCons (mC v) mNil) ρ h = .ex "BadWeb" ["part"] [v] ρ h := fun v ρ => by simp [X_part.mRaise, PySem.FldX_part.fld]
  have hl : n < h.length := (List.getElem?_eq_some_iff.mp hn).1
  unfold badW
  cases hp : primeB p with
  | false =>
    rw [hp] at e1
    refine def_ex (h1 := h) (ρ := [some (.ref n), some (.int p), some (.int m), some (.tup (ys.map pcP)), none, none]) rfl ?_ (outX_same rfl)
    show b_Web___init__ [some (.ref n), some (.int p), some (.int m), some (.tup (ys.map pcP)), none, none] h = _
    unfold b_Web___init__
    refine seq_ex (ρ1 := [some (.ref n), some (.int p), some (.int m), some (.tup (ys.map pcP)), none, none]) ?_
    simp only [ev_mIfS, ev_tNot, ev_tB, ev_mCall, ev_mCons, ev_mNil, mV, List.getElem?_cons_succ, List.getElem?_cons_zero, ev_bind_ok, e1, ev_asB, Bool.not_false, ev_st_ok, if_true, raise]
  | true =>
    rw [hp] at e1
    simp only [Bool.true_eq_false, if_false]
    cases hm : inIv (.int m) 1 10 with
    | false =>
      rw [hm] at e2
      refine def_ex (h1 := h) (ρ := [some (.ref n), some (.int p), some (.int m), some (.tup (ys.map pcP)), none, none]) rfl ?_ (outX_same rfl)
      show b_Web___init__ [some (.ref n), some (.int p), some (.int m), some (.tup (ys.map pcP)), none, none] h = _
      unfold b_Web___init__
      refine (seq_nx (ρ1 := [some (.ref n), some (.int p), some (.int m), some (.tup (ys.map pcP)), none, none]) (h1 := h) (by simp [mV, e1])).trans ?_
      refine seq_ex (ρ1 := [some (.ref n), some (.int p), some (.int m), some (.tup (ys.map pcP)), none, none]) ?_
      simp only [ev_mIfS, ev_tNot, ev_tB, ev_mCall, ev_mCons, ev_mNil, ev_mC, mV, List.getElem?_cons_succ, List.getElem?_cons_zero, ev_bind_ok, e2, ev_asB, Bool.not_false, ev_st_ok, if_true, raise]
    | true =>
      rw [hm] at e2
      simp only [Bool.true_eq_false, if_false]
      by_cases h40 : 40 < ys.length
      · have k40 : (40 : Int) < ys.length := by omega
        rw [if_pos h40]
        refine def_ex (h1 := h) (ρ := [some (.ref n), some (.int p), some (.int m), some (.tup (ys.map pcP)), none, none]) rfl ?_ (outX_same rfl)
        show b_Web___init__ [some (.ref n), some (.int p), some (.int m), some (.tup (ys.map pcP)), none, none] h = _
        unfold b_Web___init__
        refine (seq_nx (ρ1 := [some (.ref n), some (.int p), some (.int m), some (.tup (ys.map pcP)), none, none]) (h1 := h) (by simp [mV, e1])).trans ?_
        refine (seq_nx (ρ1 := [some (.ref n), some (.int p), some (.int m), some (.tup (ys.map pcP)), none, none]) (h1 := h) (by simp [mV, e2])).trans ?_
        refine seq_ex (ρ1 := [some (.ref n), some (.int p), some (.int m), some (.tup (ys.map pcP)), none, none]) ?_
        simp only [ev_mIfS, ev_tOr, ev_tNot, ev_tB, ev_mCallB, ev_mCons, ev_mNil, ev_mC, ev_mBin, mV, List.getElem?_cons_succ, List.getElem?_cons_zero, ev_bind_ok, is, ln, ev_opt_some, ev_asB, Bool.not_true, Bool.false_eq_true, if_false, fI, k40, decide_true, ev_st_ok, if_true, raise]
      · have k40 : ¬ (40 : Int) < ys.length := by omega
        rw [if_neg h40]
        obtain ⟨a', b', lp⟩ := init_loop n p m (.tup (ys.map pcP)) h ys 0 none none
        have it : mItA itEnum2 (mCons (mV 3) mNil) [some (.ref n), some (.int p), some (.int m), some (.tup (ys.map pcP)), none, none] h = .ok ⟨enumFrom 0 (ys.map pcP), fun _ => true⟩ h := by
          refine (mItA_eq (f := itEnum2) (ps := [.tup (ys.map pcP)]) (h1 := h) (by simp [mV])).trans ?_
          rfl
        have lp2 := for_eq (t := .tp [.nm 4, .nm 5]) it lp
        have start : ∀ rest, mSeq (mIfS (tNot_ (tB_ (mCall m_is_prime (mCons (mV 1) mNil)))) (X_part.mRaise "BadWeb" (mCons (mC (.str "prime")) mNil)) mPass)
            (mSeq (mIfS (tNot_ (tB_ (mCall m_is_within (mCons (mV 2) (mCons (mC (.int 1)) (mCons (mC (.int 10)) mNil)))))) (X_part.mRaise "BadWeb" (mCons (mC (.str "many")) mNil)) mPass)
            (mSeq (mIfS (tOr_ (tNot_ (tB_ (mCallB fIsi (mCons (mV 3) (mCons (mC (.ty "tuple")) mNil))))) (tB_ (mBin fGt (mCallB fLen (mCons (mV 3) mNil)) (mC (.int 40))))) (X_part.mRaise "BadWeb" (mCons (mC (.str "pieces")) mNil)) mPass) rest))
            [some (.ref n), some (.int p), some (.int m), some (.tup (ys.map pcP)), none, none] h = rest [some (.ref n), some (.int p), some (.int m), some (.tup (ys.map pcP)), none, none] h := fun rest => by
          refine (seq_nx (ρ1 := [some (.ref n), some (.int p), some (.int m), some (.tup (ys.map pcP)), none, none]) (h1 := h) (by simp [mV, e1])).trans ?_
          refine (seq_nx (ρ1 := [some (.ref n), some (.int p), some (.int m), some (.tup (ys.map pcP)), none, none]) (h1 := h) (by simp [mV, e2])).trans ?_
          exact seq_nx (ρ1 := [some (.ref n), some (.int p), some (.int m), some (.tup (ys.map pcP)), none, none]) (h1 := h) (by simp [mV, is, ln, fI, k40])
        cases hb : firstBad p m ys 0 with
        | some j =>
          rw [hb] at lp2
          refine def_ex (h1 := h) (ρ := [some (.ref n), some (.int p), some (.int m), some (.tup (ys.map pcP)), a', b']) rfl ?_ (outX_same rfl)
          show b_Web___init__ [some (.ref n), some (.int p), some (.int m), some (.tup (ys.map pcP)), none, none] h = _
          unfold b_Web___init__
          exact (start _).trans (seq_ex lp2)
        | none =>
          rw [hb] at lp2
          refine def_nx (h1 := h.set n (.ins "Web" fsW (webI p m ys))) (ρ := [some (.ref n), some (.int p), some (.int m), some (.tup (ys.map pcP)), a', b']) rfl ?_ (outF_same (by rw [List.length_set]))
          show b_Web___init__ [some (.ref n), some (.int p), some (.int m), some (.tup (ys.map pcP)), none, none] h = _
          unfold b_Web___init__
          refine (start _).trans ((seq_nx lp2).trans ?_)
          have d1 : ¬ ("prime" : Str) = "many" := by decide +kernel
          have d2 : ¬ ("prime" : Str) = "pieces" := by decide +kernel
          have d3 : ¬ ("many" : Str) = "pieces" := by decide +kernel
          have s0 : fSetA "Web" "prime" (.ref n) (.int p) h = some (h.set n (.ins "Web" ["prime"] [.int p])) := by simp [fSetA, hn, putA]
          have g1 : (h.set n (.ins "Web" ["prime"] [.int p]))[n]? = some (.ins "Web" ["prime"] [.int p]) := List.getElem?_set_self hl
          have s1 : fSetA "Web" "many" (.ref n) (.int m) (h.set n (.ins "Web" ["prime"] [.int p])) = some (h.set n (.ins "Web" ["prime", "many"] [.int p, .int m])) := by
            simp [fSetA, g1, putA, d1, List.set_set]
          have g2 : (h.set n (.ins "Web" ["prime", "many"] [.int p, .int m]))[n]? = some (.ins "Web" ["prime", "many"] [.int p, .int m]) := List.getElem?_set_self hl
          have s2 : fSetA "Web" "pieces" (.ref n) (.tup (ys.map pcP)) (h.set n (.ins "Web" ["prime", "many"] [.int p, .int m])) = some (h.set n (.ins "Web" fsW (webI p m ys))) := by
            simp [fSetA, g2, putA, fsW, webI, d2, d3, List.set_set]
          refine (seq_nx (ρ1 := [some (.ref n), some (.int p), some (.int m), some (.tup (ys.map pcP)), a', b']) (h1 := h.set n (.ins "Web" ["prime"] [.int p])) (by simp [mSetA, mV, s0])).trans ?_
          refine (seq_nx (ρ1 := [some (.ref n), some (.int p), some (.int m), some (.tup (ys.map pcP)), a', b']) (h1 := h.set n (.ins "Web" ["prime", "many"] [.int p, .int m])) (by simp [mSetA, mV, s1])).trans ?_
          simp [mSetA, mV, s2]
end Ev
set_option maxHeartbeats 4000000
/-! Q5: the bag and its draws. -/
namespace Ev
open PySem PySem.Spec PyProof.Rows L2
def bagH (cs : List Int) (a b t : Int) (e : PH) : PH := bagO cs a b t :: e
theorem mixed_eq (c t : Int) (h : PH) : m__law_mixed [.int c, .int t] h = .ok (.int (mix3 (mix2 (mix1 c t)))) h := mDef_run rfl (by
  have l1 : 0 ≤ mix1 c t ∧ mix1 c t < 2147483647 := mix_lt
  have l2 : 0 ≤ mix2 (mix1 c t) ∧ mix2 (mix1 c t) < 2147483647 := mix_lt
  have c1 : cMul 7919 t = true := cMul_l (by decide)
  have c2 : ∀ i, cMul i 48271 = true := fun i => cMul_r (by decide)
  have c3 : ∀ j, cMul (mix1 c t) j = true := fun j => cMul_l ⟨by omega, by omega⟩
  have c4 : ∀ j, cMul (mix2 (mix1 c t)) j = true := fun j => cMul_l ⟨by omega, by omega⟩
  have p1 : ∀ i, cPos i 2147483647 = true := fun i => cPos_ok (by decide)
  have p2 : ∀ i, cPos i 2147483399 = true := fun i => cPos_ok (by decide)
  have d1 : ∀ i, cDiv i 1009 = true := fun i => cDiv_ok (by decide) (by decide)
  have d2 : ∀ i, cDiv i 2003 = true := fun i => cDiv_ok (by decide) (by decide)
  have d3 : ∀ i, cDiv i 16 = true := fun i => cDiv_ok (by decide) (by decide)
  have e1 : (c % 2147483647 + 7919 * t + 1) * 48271 % 2147483647 = mix1 c t := rfl
  have e2 : mix1 c t * (mix1 c t / 1009 + 69621) % 2147483647 = mix2 (mix1 c t) := rfl
  have e3 : mix2 (mix1 c t) * (mix2 (mix1 c t) / 2003 + 40692) % 2147483399 / 16 = mix3 (mix2 (mix1 c t)) := rfl
  have M1 := fun h => fMul2_int c1 false h
  have M2 := fun i h => fMul2_int (c2 i) false h
  have M3 := fun j h => fMul2_int (c3 j) false h
  have M4 := fun j h => fMul2_int (c4 j) false h
  simp [b__law_mixed, mV, fInt, orC, fInt1, fAdd, M1, M2, M3, M4, orF, fI, fIc, p1, p2, d1, d2, d3, e1, e2, e3, outF_same])
section
variable {cs : List Int} {a b t many : Int} {e : PH}
theorem bag0 : fIx (.ref 0) (.int 0) (bagH cs a b t e) = some (.lst (cs.map PV.int), bagH cs a b t e) := by simp [fIx, asQ, asL, atI, ixN, bagH, bagO]
theorem bag1 : fIx (.ref 0) (.int 1) (bagH cs a b t e) = some (.int a, bagH cs a b t e) := by simp [fIx, asQ, asL, atI, ixN, bagH, bagO]
theorem bag2 : fIx (.ref 0) (.int 2) (bagH cs a b t e) = some (.int b, bagH cs a b t e) := by simp [fIx, asQ, asL, atI, ixN, bagH, bagO]
theorem bag3 : fIx (.ref 0) (.int 3) (bagH cs a b t e) = some (.int t, bagH cs a b t e) := by simp [fIx, asQ, asL, atI, ixN, bagH, bagO]
theorem set1 (x : Int) : fSetL (.ref 0) (.int 1) (.int x) (bagH cs a b t e) = some (bagH cs x b t e) := by simp [fSetL, ixN, bagH, bagO]
theorem set2 (x : Int) : fSetL (.ref 0) (.int 2) (.int x) (bagH cs a b t e) = some (bagH cs a x t e) := by simp [fSetL, ixN, bagH, bagO]
theorem set3 (x : Int) : fSetL (.ref 0) (.int 3) (.int x) (bagH cs a b t e) = some (bagH cs a b x e) := by simp [fSetL, ixN, bagH, bagO]
@[simp] theorem outF_bag (v : PV) : outF true (e.length + 1) v (bagH cs a b t e) = .ok v (bagH cs a b t e) := outF_same rfl
theorem bag_len : (bagH cs a b t e).length = e.length + 1 := rfl
theorem draw_eq (h0 : 0 ≤ a) (hb : 0 ≤ b) (hm : 0 < many) (hm2 : many < 1073741824) (hcs : cs.length ≤ 1000) :
    ∃ v a' b' t', m__law_draw [.ref 0, .int many] (bagH cs a b t e) = .ok (.int v) (bagH cs a' b' t' e) ∧ 0 ≤ v ∧ v < many ∧ 0 ≤ a' ∧ 0 ≤ b' := by
  have md : ∀ x : Int, 0 ≤ x % many ∧ x % many < many := fun x => ⟨Int.emod_nonneg _ (by omega), Int.emod_lt_of_pos _ hm⟩
  have p : ∀ i, cPos i many = true := fun i => cPos_ok hm
  have d : ∀ i, cDiv i many = true := fun i => cDiv_ok hm hm2
  by_cases h1 : 0 < b
  · refine ⟨b % many, a, b / many, t + 1, mDef_run rfl ?_, (md b).1, (md b).2, h0, Int.ediv_nonneg hb (by omega)⟩
    simp [b__law_draw, mV, bag3, bag2, set3, set2, fI, fIc, h1, p, d, bag_len]
  · cases cs with
    | nil =>
      refine ⟨mix3 (mix2 (mix1 0 (t + 1))) % many, a, b, t + 1, mDef_run rfl ?_, (md _).1, (md _).2, h0, hb⟩
      have bg0 := bag0 (cs := []) (a := a) (b := b) (t := t + 1) (e := e)
      simp only [List.map_nil] at bg0
      simp [b__law_draw, mV, bag3, bag2, bg0, set3, fI, fIc, h1, fLen, asQ, asL, p, mixed_eq, bag_len]
    | cons c0 r =>
      have hl : (0 : Int) < (((c0 :: r).length : Nat) : Int) := by rw [List.length_cons]; omega
      have i1 : 0 ≤ a % (((c0 :: r).length : Nat) : Int) := Int.emod_nonneg _ (by omega)
      have i2 : a % (((c0 :: r).length : Nat) : Int) < (((c0 :: r).length : Nat) : Int) := Int.emod_lt_of_pos _ hl
      have hlt : (a % (((c0 :: r).length : Nat) : Int)).toNat < (c0 :: r).length := by omega
      have pl : cPos a (((c0 :: r).length : Nat) : Int) = true := cPos_ok hl
      obtain ⟨c, hc⟩ : ∃ c, (c0 :: r)[(a % (((c0 :: r).length : Nat) : Int)).toNat]? = some c := ⟨_, List.getElem?_eq_getElem hlt⟩
      have ix : fIx (.lst ((c0 :: r).map PV.int)) (.int (a % (((c0 :: r).length : Nat) : Int))) = fun h => some (.int c, h) := by
        funext h
        have e : ((c0 :: r).map PV.int)[(a % (((c0 :: r).length : Nat) : Int)).toNat]? = some (.int c) := by rw [List.getElem?_map, hc]; rfl
        simp only [fIx, asQ, asL, atI, ixN, List.length_map, if_pos i1, if_pos i2, Option.bind, e, Option.map]
      have ne0 : ¬ ((((c0 :: r).length : Nat) : Int) = 0) := by omega
      have bg0 := fun a b t => bag0 (cs := c0 :: r) (a := a) (b := b) (t := t) (e := e)
      have fl : ∀ h, fLen [.lst ((c0 :: r).map PV.int)] h = some (.int (((c0 :: r).length : Nat) : Int), h) := fun h => by simp only [fLen, asQ, asL, List.length_map]
      have pw : cPow 10 18 = true := by decide
      have ne1 : (c0 :: r) ≠ [] := List.cons_ne_nil _ _
      generalize hcl : (c0 :: r) = cl at *
      by_cases h2 : a < (cl.length : Int)
      · by_cases h3 : (1000000000000000000 : Int) ≤ (if c < 0 then -c else c)
        · have ab : 0 ≤ (if c < 0 then -c else c) := Int.le_trans (by decide) h3
          refine ⟨(if c < 0 then -c else c) % many, a + 1, (if c < 0 then -c else c) / many, t + 1, mDef_run rfl ?_, (md _).1, (md _).2, by omega, Int.ediv_nonneg ab (by omega)⟩
          simp [b__law_draw, mV, bag3, bag2, bag1, bg0, set3, set2, set1, fI, fIc, h1, h2, h3, fl, ix, ne1, pl, p, d, pw, fAbs, bag_len]
        · refine ⟨mix3 (mix2 (mix1 c (t + 1))) % many, a + 1, b, t + 1, mDef_run rfl ?_, (md _).1, (md _).2, by omega, hb⟩
          simp [b__law_draw, mV, bag3, bag2, bag1, bg0, set3, set1, fI, fIc, h1, h2, h3, fl, ix, ne1, pl, p, pw, fAbs, mixed_eq, bag_len]
      · refine ⟨mix3 (mix2 (mix1 c (t + 1))) % many, a + 1, b, t + 1, mDef_run rfl ?_, (md _).1, (md _).2, by omega, hb⟩
        simp [b__law_draw, mV, bag3, bag2, bag1, bg0, set3, set1, fI, fIc, h1, h2, fl, ix, ne1, pl, p, mixed_eq, bag_len]
end
theorem bag_eq (ns : List Int) (hl : ns.length ≤ 63) : m__law_bag [.rol (ns.map PV.int)] [] = .ok (.ref 0) (bagH ns 0 0 0 []) := mDef_run rfl (by
  have hc : cutG (ns.map PV.int) none (some 63) = ns.map PV.int := cut63 _ (by rw [List.length_map]; exact hl)
  have hs : mIt (mSl (fSl false) (mV 0) mNoPart (mPart (mC (.int 63)))) [some (.rol (ns.map PV.int)), none] [] = .ok ⟨ns.map PV.int, fun _ => true⟩ [] := by
    simp [mIt, mV, fSl, asL, hc, itSeq]
  have lc := mLc_pure (b := false) (own := [1]) (mi := mIt (mSl (fSl false) (mV 0) mNoPart (mPart (mC (.int 63))))) (t := .nm 1) (me := mCallB fInt (mCons (mV 1) mNil)) (ρ := [some (.rol (ns.map PV.int)), none]) (h := [])
    (s := ⟨ns.map PV.int, fun _ => true⟩) PV.int PV.int ns hs rfl rfl (fun x _ => ⟨_, rfl, by simp [mV, wipeR]⟩) (by rw [sizeLine_eq]; omega)
  simp [b__law_bag, lc, sizeLine_eq, bagH, bagO, outF])
theorem bag_nr (cs : List Int) (a b t : Int) {e : PH} (he : e.all nrO = true) : (bagH cs a b t e).all nrO = true := by
  simp only [bagH, List.all_cons, he, Bool.and_true]
  simp [bagO, nrO, nrs, nr, nrs_ints]
theorem outF_out {cs : List Int} {a b t : Int} {e e2 : PH} {v : PV} (he : e.all nrO = true) (hv : nr v = true) : outF true (e.length + 1) v (bagH cs a b t (e ++ e2)) = .ok v (bagH cs a b t e) :=
  outF_nr (frz := true) (h := bagH cs a b t e) (e := e2) (bag_nr cs a b t he) hv
end Ev
set_option maxHeartbeats 4000000
/-! Q6: what is bad of a web, by the law's own reckoning. -/
namespace Ev
open PySem PySem.Spec PyProof.Rows L2
/-- what the reading of a line promises of a piece -/
def okR (y : List Int × Int) : Bool := decide (y.1 ≠ []) && y.1.all (fun v => decide (0 ≤ v))
def lawBad (p m : Int) (y : List Int × Int) : Bool := decide ((y.1.length : Int) ≠ m) || (decide (p ≤ maxI y.1) || (decide (maxI y.1 = 0) || !(decide (1 ≤ y.2) && decide (y.2 ≤ 1000000))))
theorem inIv_int (v lo hi : Int) : inIv (.int v) lo hi = (decide (lo ≤ v) && decide (v ≤ hi)) := by simp [inIv]
theorem lawBad_eq {p m : Int} {y : List Int × Int} (h1 : 1 ≤ m) (h2 : m ≤ 10) (hy : okR y = true) : lawBad p m y = !pieceB p m y := by
  obtain ⟨vs, z⟩ := y
  unfold okR at hy
  obtain ⟨n1, n2⟩ := Bool.and_eq_true_iff.mp hy
  have ne : vs ≠ [] := of_decide_eq_true n1
  have nn : ∀ v ∈ vs, 0 ≤ v := fun v hv => of_decide_eq_true (List.all_eq_true.mp n2 v hv)
  unfold lawBad pieceB sumB
  simp only
  by_cases hlen : (vs.length : Int) = m
  · have l1 : 1 ≤ vs.length := by omega
    have l2 : vs.length ≤ 10 := by omega
    obtain ⟨s1, s2⟩ := maxI_spec vs ne
    have A : (vs.all fun v => inIv (.int v) 0 (p - 1)) = !decide (p ≤ maxI vs) := by
      by_cases hp : p ≤ maxI vs
      · rw [decide_eq_true hp]
        refine Bool.eq_false_iff.mpr fun q => ?_
        have := List.all_eq_true.mp q _ s1
        rw [inIv_int, Bool.and_eq_true_iff] at this
        have := of_decide_eq_true this.2
        omega
      · rw [decide_eq_false hp]
        refine List.all_eq_true.mpr fun v hv => ?_
        rw [inIv_int, Bool.and_eq_true_iff]
        have := s2 v hv
        exact ⟨decide_eq_true (nn v hv), decide_eq_true (by omega)⟩
    have B : (vs.any fun v => decide (v ≠ 0)) = !decide (maxI vs = 0) := by
      by_cases hp : maxI vs = 0
      · rw [decide_eq_true hp]
        refine Bool.eq_false_iff.mpr fun q => ?_
        obtain ⟨v, hv, q⟩ := List.any_eq_true.mp q
        have q := of_decide_eq_true q
        have := s2 v hv
        have := nn v hv
        omega
      · rw [decide_eq_false hp]
        exact List.any_eq_true.mpr ⟨_, s1, decide_eq_true hp⟩
    rw [A, B, inIv_int, decide_eq_true l1, decide_eq_true l2, decide_eq_true hlen, decide_eq_false (show ¬ ((vs.length : Int) ≠ m) from fun q => q hlen)]
    cases decide (p ≤ maxI vs) <;> cases decide (maxI vs = 0) <;> cases decide (1 ≤ z) <;> cases decide (z ≤ 1000000) <;> rfl
  · rw [decide_eq_true (show (vs.length : Int) ≠ m from hlen), decide_eq_false hlen]
    simp
theorem asIs_ints : ∀ l : List Int, asIs (l.map PV.int) = some l
  | [] => rfl
  | a :: l => by
    have ih := asIs_ints l
    simp only [asIs] at ih
    simp [asIs, mapO, oI, ih]
theorem max_ints (l : List Int) (hl : l ≠ []) (h : PH) : fMax [.tup (l.map PV.int)] h = some (.int (maxI l), h) := by
  simp [fMax, asQ, asL, asT, asIs_ints, hl]
noncomputable abbrev badBd : SM := mSeq (mAsg (.tp [(.nm 4), (.nm 5)]) (mBin fIx (mV 2) (mV 3)))
  (mIfS (tOr_ (tB_ (mBin fNe (mCallB fLen (mCons (mV 4) mNil)) (mV 1))) (tOr_ (tB_ (mBin fGe (mCallB fMax (mCons (mV 4) mNil)) (mV 0))) (tOr_ (tB_ (mBin fEq (mCallB fMax (mCons (mV 4) mNil)) (mC (.int 0)))) (tNot_ (tB_ (mCh fLe fLe (mC (.int 1)) (mV 5) (mBin fPowI (mC (.int 10)) (mC (.int 6))))))))) (mRet (mV 3)) mPass)
theorem bad_loop (p m : Int) (h1 : 1 ≤ m) (h2 : m ≤ 10) (h : PH) (all : List (List Int × Int)) : ∀ (ls pre : List (List Int × Int)) (a b c : Option PV), all = pre ++ ls → ls.all okR = true →
    ∃ (a' b' c' : Option PV), forL (fun _ => true) (.nm 3) badBd ((List.range' pre.length ls.length).map fun k => .int (k : Nat)) [some (.int p), some (.int m), some (.lst (all.map pcP)), a, b, c] h =
      (match firstBad p m ls pre.length with
        | none => .nx [some (.int p), some (.int m), some (.lst (all.map pcP)), a', b', c'] h
        | some j => .rt (.int (j : Nat)) h)
  | [], pre, a, b, c, _, _ => ⟨a, b, c, by simp [forL, firstBad]⟩
  | y :: ls, pre, a, b, c, hall, hk => by
    rw [List.all_cons, Bool.and_eq_true_iff] at hk
    have lb := lawBad_eq (p := p) h1 h2 hk.1
    have hk' : pre.length < (all.map pcP).length := by rw [List.length_map, hall]; simp
    have gl : (all.map pcP)[pre.length] = pcP y := by simp [hall]
    have ix := ix_lst (all.map pcP) pre.length hk' h
    rw [gl] at ix
    have ra : List.range' pre.length (y :: ls).length = pre.length :: List.range' (pre ++ [y]).length ls.length := by
      rw [List.length_cons, List.range'_succ, List.length_append]; rfl
    rw [ra, List.map_cons]
    have ne : y.1 ≠ [] := of_decide_eq_true (Bool.and_eq_true_iff.mp hk.1).1
    have mx := max_ints y.1 ne h
    have ln := len_ints y.1 h
    have pw : fPowI (.int 10) (.int 6) h = some (.int 1000000, h) := by
      have e : cPow 10 6 = true := by decide
      simp [fPowI, fIc, e]
    have test : (tOr_ (tB_ (mBin fNe (mCallB fLen (mCons (mV 4) mNil)) (mV 1))) (tOr_ (tB_ (mBin fGe (mCallB fMax (mCons (mV 4) mNil)) (mV 0))) (tOr_ (tB_ (mBin fEq (mCallB fMax (mCons (mV 4) mNil)) (mC (.int 0)))) (tNot_ (tB_ (mCh fLe fLe (mC (.int 1)) (mV 5) (mBin fPowI (mC (.int 10)) (mC (.int 6))))))))) [some (.int p), some (.int m), some (.lst (all.map pcP)), some (.int (pre.length : Nat)), some (.tup (y.1.map PV.int)), some (.int y.2)] h = .ok (lawBad p m y) h := by
      have hne : fNe (.int (y.1.length : Int)) (.int m) h = some (.bl (decide ((y.1.length : Int) ≠ m)), h) := by simp
      have hge : fGe (.int (maxI y.1)) (.int p) h = some (.bl (decide (p ≤ maxI y.1)), h) := by simp [fI]
      have heq : fEq (.int (maxI y.1)) (.int 0) h = some (.bl (decide (maxI y.1 = 0)), h) := by simp
      have hl1 : fLe (.int 1) (.int y.2) h = some (.bl (decide (1 ≤ y.2)), h) := by simp [fI]
      have hl2 : fLe (.int y.2) (.int 1000000) h = some (.bl (decide (y.2 ≤ 1000000)), h) := by simp [fI]
      simp only [ev_tOr, ev_tNot, ev_tB, ev_mCallB, ev_mCons, ev_mNil, ev_mC, ev_mBin, ev_mCh, mV, List.getElem?_cons_succ, List.getElem?_cons_zero, ev_bind_ok, ln, mx, pw, hne, hge, heq, hl1, ev_opt_some, ev_asB]
      unfold lawBad
      cases decide ((y.1.length : Int) ≠ m) <;> cases decide (p ≤ maxI y.1) <;> cases decide (maxI y.1 = 0) <;> cases decide (1 ≤ y.2) <;> simp [hl2, pw]
    have step : badBd [some (.int p), some (.int m), some (.lst (all.map pcP)), some (.int (pre.length : Nat)), b, c] h = (if lawBad p m y then .rt (.int (pre.length : Nat)) h else .nx [some (.int p), some (.int m), some (.lst (all.map pcP)), some (.int (pre.length : Nat)), some (.tup (y.1.map PV.int)), some (.int y.2)] h) := by
      unfold badBd
      refine (seq_nx (ρ1 := [some (.int p), some (.int m), some (.lst (all.map pcP)), some (.int (pre.length : Nat)), some (.tup (y.1.map PV.int)), some (.int y.2)]) (h1 := h) (by simp [mV, ix, pcP, asg, asgs, asT])).trans ?_
      rw [ev_mIfS, test]
      cases lawBad p m y <;> simp [mV]
    rw [lb] at step
    cases hp : pieceB p m y with
    | true =>
      rw [hp] at step
      obtain ⟨a', b', c', ih⟩ := bad_loop p m h1 h2 h all ls (pre ++ [y]) (some (.int (pre.length : Nat))) (some (.tup (y.1.map PV.int))) (some (.int y.2)) (by rw [hall]; simp) hk.2
      refine ⟨a', b', c', ?_⟩
      have pl : (pre ++ [y]).length = pre.length + 1 := by simp
      simp only [firstBad, hp, if_true]
      rw [pl] at ih ⊢
      rw [← ih]
      simp only [forL, asg, List.set_cons_succ, List.set_cons_zero, step, Bool.not_true, Bool.false_eq_true, if_false, if_true]
    | false =>
      rw [hp] at step
      refine ⟨none, none, none, ?_⟩
      simp only [firstBad, hp, Bool.false_eq_true, if_false]
      simp only [forL, asg, List.set_cons_succ, List.set_cons_zero, step, Bool.not_false, Bool.false_eq_true, if_false, if_true]
def noneP : Option PV → PV
  | some v => v
  | none => .non
theorem bad_part_eq (p m : Int) (ys : List (List Int × Int)) (h : PH) (hy : ys.all okR = true) (hl : ys.length ≤ 1000000) :
    m__law_bad_part [.int p, .int m, .lst (ys.map pcP)] h = .ok (noneP (badW p m ys)) h := by
  have pr := primes_eq h
  have ni := notin_ints p primesL h
  rw [primes_any] at ni
  have ln : fLen [.lst (ys.map pcP)] h = some (.int (ys.length : Int), h) := by simp [fLen, asQ, asL]
  unfold badW
  cases hp : primeB p with
  | false =>
    rw [hp] at ni
    refine def_rt (h1 := h) (v := .str "prime") rfl ?_ (outF_same rfl)
    show b__law_bad_part [some (.int p), some (.int m), some (.lst (ys.map pcP)), none, none, none] h = _
    unfold b__law_bad_part
    refine seq_rt ?_
    simp only [ev_mIfS, ev_tB, ev_mBin, ev_mCall, ev_mNil, mV, List.getElem?_cons_succ, List.getElem?_cons_zero, ev_bind_ok, pr, ni, ev_opt_some, ev_asB, Bool.not_false, if_true, ev_mRet, ev_mC, ev_st_ok]
  | true =>
    rw [hp] at ni
    simp only [Bool.true_eq_false, if_false]
    have s1 : ∀ rest, mSeq (mIfS (tB_ (mBin (fIn2 true) (mV 0) (mCall m__law_primes mNil))) (mRet (mC (.str "prime"))) mPass) rest [some (.int p), some (.int m), some (.lst (ys.map pcP)), none, none, none] h = rest [some (.int p), some (.int m), some (.lst (ys.map pcP)), none, none, none] h := fun rest => seq_nx (by
      simp only [ev_mIfS, ev_tB, ev_mBin, ev_mCall, ev_mNil, mV, List.getElem?_cons_succ, List.getElem?_cons_zero, ev_bind_ok, pr, ni, ev_opt_some, ev_asB, Bool.not_true, Bool.false_eq_true, if_false, ev_mPass, ev_st_ok])
    have hl1 : fLe (.int 1) (.int m) h = some (.bl (decide (1 ≤ m)), h) := by simp [fI]
    have hl2 : fLe (.int m) (.int 10) h = some (.bl (decide (m ≤ 10)), h) := by simp [fI]
    have t2 : (tNot_ (tB_ (mCh fLe fLe (mC (.int 1)) (mV 1) (mC (.int 10))))) [some (.int p), some (.int m), some (.lst (ys.map pcP)), none, none, none] h = .ok (!inIv (.int m) 1 10) h := by
      rw [inIv_int]
      simp only [ev_tNot, ev_tB, ev_mC, ev_mCh, mV, List.getElem?_cons_succ, List.getElem?_cons_zero, ev_bind_ok, hl1, ev_opt_some, ev_asB]
      cases decide (1 ≤ m) <;> simp [hl2]
    cases hm : inIv (.int m) 1 10 with
    | false =>
      rw [hm] at t2
      refine def_rt (h1 := h) (v := .str "many") rfl ?_ (outF_same rfl)
      show b__law_bad_part [some (.int p), some (.int m), some (.lst (ys.map pcP)), none, none, none] h = _
      unfold b__law_bad_part
      refine (s1 _).trans (seq_rt ?_)
      rw [ev_mIfS, t2]
      simp
    | true =>
      rw [hm] at t2
      simp only [Bool.true_eq_false, if_false]
      rw [inIv_int, Bool.and_eq_true_iff] at hm
      have m1 := of_decide_eq_true hm.1
      have m2 := of_decide_eq_true hm.2
      have s2 : ∀ rest, mSeq (mIfS (tNot_ (tB_ (mCh fLe fLe (mC (.int 1)) (mV 1) (mC (.int 10))))) (mRet (mC (.str "many"))) mPass) rest [some (.int p), some (.int m), some (.lst (ys.map pcP)), none, none, none] h = rest [some (.int p), some (.int m), some (.lst (ys.map pcP)), none, none, none] h := fun rest => seq_nx (by
        rw [ev_mIfS, t2]
        simp)
      by_cases h40 : 40 < ys.length
      · have k40 : (40 : Int) < ys.length := by omega
        rw [if_pos h40]
        refine def_rt (h1 := h) (v := .str "pieces") rfl ?_ (outF_same rfl)
        show b__law_bad_part [some (.int p), some (.int m), some (.lst (ys.map pcP)), none, none, none] h = _
        unfold b__law_bad_part
        refine (s1 _).trans ((s2 _).trans (seq_rt ?_))
        simp [mV, ln, fI, k40]
      · have k40 : ¬ (40 : Int) < ys.length := by omega
        rw [if_neg h40]
        have s3 : ∀ rest, mSeq (mIfS (tB_ (mBin fGt (mCallB fLen (mCons (mV 2) mNil)) (mC (.int 40)))) (mRet (mC (.str "pieces"))) mPass) rest [some (.int p), some (.int m), some (.lst (ys.map pcP)), none, none, none] h = rest [some (.int p), some (.int m), some (.lst (ys.map pcP)), none, none, none] h := fun rest => seq_nx (by
          simp [mV, ln, fI, k40])
        obtain ⟨a', b', c', lp⟩ := bad_loop p m m1 m2 h ys ys [] none none none (by simp) hy
        have rg := range1_ok ys.length (by omega) h
        rw [List.range_eq_range'] at rg
        have it := mItA_eq (f := itRange1) (as := mCons (mCallB fLen (mCons (mV 2) mNil)) mNil) (ρ := [some (.int p), some (.int m), some (.lst (ys.map pcP)), none, none, none]) (h := h) (ps := [.int (ys.length : Int)]) (h1 := h) (by simp [mV, ln])
        rw [rg] at it
        have lp2 := for_eq (t := .nm 3) (body := badBd) it lp
        simp only [List.length_nil] at lp2
        cases hb : firstBad p m ys 0 with
        | some j =>
          rw [hb] at lp2
          refine def_rt (h1 := h) (v := .int (j : Nat)) rfl ?_ (outF_same rfl)
          show b__law_bad_part [some (.int p), some (.int m), some (.lst (ys.map pcP)), none, none, none] h = _
          unfold b__law_bad_part
          exact (s1 _).trans ((s2 _).trans ((s3 _).trans (seq_rt lp2)))
        | none =>
          rw [hb] at lp2
          refine def_rt (h1 := h) (v := .non) rfl ?_ (outF_same rfl)
          show b__law_bad_part [some (.int p), some (.int m), some (.lst (ys.map pcP)), none, none, none] h = _
          unfold b__law_bad_part
          refine (s1 _).trans ((s2 _).trans ((s3 _).trans ((seq_nx lp2).trans ?_)))
          simp
end Ev
set_option maxHeartbeats 4000000
/-! Q7: a text spoilt. -/
namespace Ev
open PySem PySem.Spec PyProof.Rows L2
def signs : Str := "0123456789, \nwebpieczx-+"
def more1 : List Str := ["", " ", "piece 1 1", "piece 1000001 1", "piece 0 1", "piece 1 0", "piece 1 251,1", "piece 01 1", "web 4 2"]
def more2 : List Str := ["web 2 11", "web 2 0", "piece 1 1,", "piece 1  1", "piece 1000000000 1", "piece 1 1,00"]
def more3 : List Str := more1 ++ more2 ++ [("web 999999999 1" : Str)]
theorem addR_ok (n : Nat) (xs ys : List PV) (h : PH) (hn : h[n]? = some (.lst xs)) (hl : xs.length + ys.length ≤ 3000000) : fAdd true (.ref n) (.lst ys) h = some (.ref h.length, h ++ [.lst (xs ++ ys)]) := by
  have l1 : xs.length ≤ sizeLine := by rw [sizeLine_eq]; omega
  have l2 : xs.length + ys.length ≤ sizeLine := by rw [sizeLine_eq]; omega
  simp [fAdd, orF, fAddI, fAddS, fAddT, fAddL, asL, asT, asM, hn, l1, l2, newL, fI]
theorem ix_ref (n : Nat) (xs : List PV) (h : PH) (hn : h[n]? = some (.lst xs)) (v : PV) : fIx (.ref n) v h = fIx (.lst xs) v h := by
  simp [fIx, asQ, asL, hn]
section
variable {cs : List Int} {a b t : Int} {e : PH}
theorem spoilt_eq {s : Str} (he : e.all nrO = true) (hcs : cs.length ≤ 1000) (ha : 0 ≤ a) (hb : 0 ≤ b) (hs : s.length ≤ 400000) :
    ∃ (s' : Str) (a' b' t' : Int), m__law_spoilt [.ref 0, .str s] (bagH cs a b t e) = .ok (.str s') (bagH cs a' b' t' e) ∧ 0 ≤ a' ∧ 0 ≤ b' ∧ s'.length ≤ 2 * s.length + 100 := by
  have hz : s.length ≤ 16777216 := by omega
  have sgl : signs.length = 24 := rfl
  obtain ⟨v1, a1, b1, t1, e1, x1, x2, x3, x4⟩ := draw_eq (cs := cs) (a := a) (b := b) (t := t) (many := 24) (e := e) ha hb (by decide) (by decide) hcs
  obtain ⟨z, hz1, ez⟩ := ix_sign signs v1 x1 (by rw [sgl]; exact x2) (by rw [sgl]; decide) (bagH cs a1 b1 t1 e)
  obtain ⟨v2, a2, b2, t2, e2, y1, y2, y3, y4⟩ := draw_eq (cs := cs) (a := a1) (b := b1) (t := t1) (many := (s.length : Int) + 1) (e := e) x3 x4 (by omega) (by omega) hcs
  obtain ⟨v3, a3, b3, t3, e3, u1, u2, u3, u4⟩ := draw_eq (cs := cs) (a := a2) (b := b2) (t := t2) (many := 10) (e := e) y3 y4 (by decide) (by decide) hcs
  have lsg : ∀ h, fLen [.str signs] h = some (.int 24, h) := fun h => by
    have h22 : signs.length ≤ 16777216 := by rw [sgl]; decide
    simp [fLen, asQ, asL, asT, sizeLine_eq, h22]
    rw [sgl]; rfl
  have ls : ∀ h, fLen [.str s] h = some (.int (s.length : Int), h) := fun h => by simp [fLen, asQ, asL, asT, sizeLine_eq, hz]
  have ss := fun lo hi h => sl_str_ok s (by omega) lo hi h
  have esg : ("0123456789, \nwebpieczx-+" : Str) = signs := rfl
  by_cases k2 : v3 < 2
  · have c1 := cutS_length s none (some v2)
    have c2 := cutS_length s (some v2) none
    refine ⟨cutS s none (some v2) ++ z ++ cutS s (some v2) none, a3, b3, t3, def_rt (h1 := bagH cs a3 b3 t3 e) rfl ?_ (outF_same rfl), u3, u4, by rw [len_add, len_add]; omega⟩
    have A1 := fun h => addS_ok (cutS s none (some v2)) z (by omega) h
    have A2 := fun h => addS_ok (cutS s none (some v2) ++ z) (cutS s (some v2) none) (by rw [len_add]; omega) h
    simp [b__law_spoilt, mV, esg, lsg, e1, ez, ls, e2, e3, fI, k2, ss, A1, A2]
  · by_cases k4 : v3 < 4
    · have c1 := cutS_length s none (some v2)
      have c2 := cutS_length s (some (v2 + 1)) none
      refine ⟨cutS s none (some v2) ++ cutS s (some (v2 + 1)) none, a3, b3, t3, def_rt (h1 := bagH cs a3 b3 t3 e) rfl ?_ (outF_same rfl), u3, u4, by rw [len_add]; omega⟩
      have A1 := fun h => addS_ok (cutS s none (some v2)) (cutS s (some (v2 + 1)) none) (by omega) h
      simp [b__law_spoilt, mV, esg, lsg, e1, ez, ls, e2, e3, fI, k2, k4, ss, A1]
    · by_cases k5 : v3 = 4
      · have c1 := cutS_length s none (some v2)
        have c2 := cutS_length s (some (v2 + 1)) none
        refine ⟨cutS s none (some v2) ++ z ++ cutS s (some (v2 + 1)) none, a3, b3, t3, def_rt (h1 := bagH cs a3 b3 t3 e) rfl ?_ (outF_same rfl), u3, u4, by rw [len_add, len_add]; omega⟩
        have A1 := fun h => addS_ok (cutS s none (some v2)) z (by omega) h
        have A2 := fun h => addS_ok (cutS s none (some v2) ++ z) (cutS s (some (v2 + 1)) none) (by rw [len_add]; omega) h
        simp [b__law_spoilt, mV, esg, lsg, e1, ez, ls, e2, e3, fI, k5, ss, A1, A2]
      · have sp := fun h => split_nl (l := s) (by omega) h
        have sw := split_wide s "\n" nl_len
        have sne := split_ne s "\n"
        generalize Txt.split s "\n" = ls' at *
        have wl := wide_len ls'
        have lpos : 0 < ls'.length := List.length_pos_iff.mpr sne
        obtain ⟨v4, a4, b4, t4, e4, w1, w2, w3, w4⟩ := draw_eq (cs := cs) (a := a3) (b := b3) (t := t3) (many := (ls'.length : Int)) (e := e) u3 u4 (by omega) (by omega) hcs
        have ll : ∀ h, fLen [.lst (ls'.map PV.str)] h = some (.int (ls'.length : Int), h) := fun h => by simp [fLen, asQ, asL]
        have sl := fun lo hi h => sl_lst (ls'.map PV.str) lo hi h
        simp only [cutG_map] at sl
        by_cases k6 : v3 = 5
        · have d1 := wide_sub ls' none (some v4)
          have d2 := wide_sub ls' (some (v4 + 1)) none
          have g1 := cutG_le ls' none (some v4)
          have g2 := cutG_le ls' (some (v4 + 1)) none
          have j1' := fun h => (join_ok (cutG ls' none (some v4) ++ cutG ls' (some (v4 + 1)) none) (by rw [wide_app]; omega) h).1
          have j2' := (join_ok (cutG ls' none (some v4) ++ cutG ls' (some (v4 + 1)) none) (by rw [wide_app]; omega) []).2
          rw [wide_app] at j2'
          refine ⟨_, a4, b4, t4, def_rt (h1 := bagH cs a4 b4 t4 e) rfl ?_ (outF_same rfl), w3, w4, Nat.le_trans j2' (by omega)⟩
          have A1 := fun h => addL_ok ((cutG ls' none (some v4)).map PV.str) ((cutG ls' (some (v4 + 1)) none).map PV.str) (by rw [List.length_map, List.length_map]; omega) h
          simp only [List.map_append, List.map_cons, List.map_nil, List.append_assoc, List.cons_append, List.nil_append] at j1'
          simp [b__law_spoilt, mV, esg, lsg, e1, ez, ls, e2, e3, fI, k6, isT, isS, sp, ll, e4, sl, A1, j1']
        · by_cases k7 : v3 = 6
          · have d1 := wide_sub ls' none (some (v4 + 1))
            have d2 := wide_sub ls' (some v4) none
            have g1 := cutG_le ls' none (some (v4 + 1))
            have g2 := cutG_le ls' (some v4) none
            have j1' := fun h => (join_ok (cutG ls' none (some (v4 + 1)) ++ cutG ls' (some v4) none) (by rw [wide_app]; omega) h).1
            have j2' := (join_ok (cutG ls' none (some (v4 + 1)) ++ cutG ls' (some v4) none) (by rw [wide_app]; omega) []).2
            rw [wide_app] at j2'
            refine ⟨_, a4, b4, t4, def_rt (h1 := bagH cs a4 b4 t4 e) rfl ?_ (outF_same rfl), w3, w4, Nat.le_trans j2' (by omega)⟩
            have A1 := fun h => addL_ok ((cutG ls' none (some (v4 + 1))).map PV.str) ((cutG ls' (some v4) none).map PV.str) (by rw [List.length_map, List.length_map]; omega) h
            simp only [List.map_append, List.map_cons, List.map_nil, List.append_assoc, List.cons_append, List.nil_append] at j1'
            simp [b__law_spoilt, mV, esg, lsg, e1, ez, ls, e2, e3, fI, k7, isT, isS, sp, ll, e4, sl, A1, j1']
          · obtain ⟨v5, a5, b5, t5, e5, m1, m2, m3, m4⟩ := draw_eq (cs := cs) (a := a4) (b := b4) (t := t4) (many := 16) (e := e ++ [.lst (more1.map PV.str), .lst (more3.map PV.str)]) w3 w4 (by decide) (by decide) hcs
            obtain ⟨p, hp, ip⟩ := ix_in (more3.map PV.str) v5 m1 (by rw [List.length_map]; exact m2) (bagH cs a5 b5 t5 (e ++ [.lst (more1.map PV.str), .lst (more3.map PV.str)]))
            obtain ⟨one, ho, rfl⟩ := List.mem_map.mp hp
            have hol : one.length ≤ 32 := by
              have : ∀ o ∈ more3, o.length ≤ 32 := by decide
              exact this one ho
            have g5 : (bagH cs a5 b5 t5 (e ++ [.lst (more1.map PV.str), .lst (more3.map PV.str)]))[e.length + 2]? = some (.lst (more3.map PV.str)) := by
              show (e ++ [.lst (more1.map PV.str), .lst (more3.map PV.str)])[e.length + 1]? = _
              simp
            rw [← ix_ref (e.length + 2) _ _ g5] at ip
            -- the list of lines grows
            have st8 : mLst true (mCons (mC (.str "")) (mCons (mC (.str " ")) (mCons (mC (.str "piece 1 1")) (mCons (mC (.str "piece 1000001 1")) (mCons (mC (.str "piece 0 1")) (mCons (mC (.str "piece 1 0")) (mCons (mC (.str "piece 1 251,1")) (mCons (mC (.str "piece 01 1")) (mCons (mC (.str "web 4 2")) mNil))))))))) = fun ρ h => .ok (.ref h.length) (h ++ [.lst (more1.map PV.str)]) := by
              funext ρ h
              simp [sizeLine_eq, more1, newL]
            have el2 : mLst false (mCons (mC (.str "web 2 11")) (mCons (mC (.str "web 2 0")) (mCons (mC (.str "piece 1 1,")) (mCons (mC (.str "piece 1  1")) (mCons (mC (.str "piece 1000000000 1")) (mCons (mC (.str "piece 1 1,00")) mNil)))))) = fun ρ h => .ok (.lst (more2.map PV.str)) h := by
              funext ρ h
              simp [sizeLine_eq, more2, newL]
            have g1 : (bagH cs a4 b4 t4 e ++ [.lst (more1.map PV.str)])[(bagH cs a4 b4 t4 e).length]? = some (.lst (more1.map PV.str)) := by simp
            have ad := addR_ok _ _ (more2.map PV.str) _ g1 (by decide)
            have lz : (bagH cs a4 b4 t4 e ++ [PO.lst (more1.map PV.str)]).length = e.length + 2 := by simp [bagH]
            rw [lz] at ad
            have bl : (bagH cs a4 b4 t4 e).length = e.length + 1 := rfl
            rw [bl] at ad
            have ap : fAppend (.ref (e.length + 2)) [.str "web 999999999 1"] (bagH cs a4 b4 t4 e ++ [.lst (more1.map PV.str)] ++ [.lst (more1.map PV.str ++ more2.map PV.str)]) = some (.non, bagH cs a4 b4 t4 (e ++ [.lst (more1.map PV.str), .lst (more3.map PV.str)])) := by
              have g : (bagH cs a4 b4 t4 e ++ [.lst (more1.map PV.str)] ++ [.lst (more1.map PV.str ++ more2.map PV.str)])[e.length + 2]? = some (.lst (more1.map PV.str ++ more2.map PV.str)) := by
                rw [← lz]; exact app_get _ _
              have ln : (more1.map PV.str ++ more2.map PV.str).length < sizeLine := by rw [sizeLine_eq]; decide
              simp only [fAppend, g, ln, if_true]
              have q := app_set (bagH cs a4 b4 t4 e ++ [.lst (more1.map PV.str)]) (.lst (more1.map PV.str ++ more2.map PV.str)) (.lst (more1.map PV.str ++ more2.map PV.str ++ [.str "web 999999999 1"]))
              rw [lz] at q
              rw [q]
              simp [bagH, more3]
            -- the two ends
            have fin : ∀ w : Option Int, ∃ r : Str, fJoin (.str "\n") [.lst ((cutG ls' none (some v4) ++ [one] ++ cutG ls' w none).map PV.str)] = (fun h => some (.str r, h)) ∧ r.length ≤ 2 * s.length + 100 := fun w => by
              have d1 := wide_sub ls' none (some v4)
              have d2 := wide_sub ls' w none
              have w1' : wide [one] = one.length + 1 := by simp [wide]
              have jj := fun h => join_ok (cutG ls' none (some v4) ++ [one] ++ cutG ls' w none) (by rw [wide_app, wide_app, w1']; omega) h
              have j2' := (jj []).2
              rw [wide_app, wide_app, w1'] at j2'
              exact ⟨_, funext fun h => (jj h).1, Nat.le_trans j2' (by omega)⟩
            have A1 := fun h => addL_ok ((cutG ls' none (some v4)).map PV.str) [.str one] (by have := cutG_le ls' none (some v4); rw [List.length_map]; simp; omega) h
            have A2 := fun w h => addL_ok ((cutG ls' none (some v4)).map PV.str ++ [.str one]) ((cutG ls' w none).map PV.str) (by have := cutG_le ls' none (some v4); have := cutG_le ls' w none; simp; omega) h
            obtain ⟨r1, f1, f2⟩ := fin (some (v4 + 1))
            obtain ⟨r2, f3, f4⟩ := fin (some v4)
            simp only [List.map_append, List.map_cons, List.map_nil, List.append_assoc, List.cons_append, List.nil_append] at A2 f1 f3
            have start : ∀ rest, ∀ R, rest [some (.ref 0), some (.str s), some (.str signs), some (.str z), some (.int v2), some (.int v3), some (.lst (ls'.map PV.str)), some (.int v4), some (.ref (e.length + 2)), some (.str one)] (bagH cs a5 b5 t5 (e ++ [.lst (more1.map PV.str), .lst (more3.map PV.str)])) = R →
                (b__law_spoilt = (mSeq (mAsg (.nm 2) (mC (.str "0123456789, \nwebpieczx-+")))
  (mSeq (mAsg (.nm 3) (mBin fIx (mV 2) (mCall m__law_draw (mCons (mV 0) (mCons (mCallB fLen (mCons (mV 2) mNil)) mNil)))))
  (mSeq (mAsg (.nm 4) (mCall m__law_draw (mCons (mV 0) (mCons (mBin (fAdd false) (mCallB fLen (mCons (mV 1) mNil)) (mC (.int 1))) mNil))))
  (mSeq (mAsg (.nm 5) (mCall m__law_draw (mCons (mV 0) (mCons (mC (.int 10)) mNil))))
  (mSeq (mIfS (tB_ (mBin fLt (mV 5) (mC (.int 2)))) (mRet (mBin (fAdd false) (mBin (fAdd false) (mSl (fSl false) (mV 1) mNoPart (mPart (mV 4))) (mV 3)) (mSl (fSl false) (mV 1) (mPart (mV 4)) mNoPart))) mPass)
  (mSeq (mIfS (tB_ (mBin fLt (mV 5) (mC (.int 4)))) (mRet (mBin (fAdd false) (mSl (fSl false) (mV 1) mNoPart (mPart (mV 4))) (mSl (fSl false) (mV 1) (mPart (mBin (fAdd false) (mV 4) (mC (.int 1)))) mNoPart))) mPass)
  (mSeq (mIfS (tB_ (mBin fEq (mV 5) (mC (.int 4)))) (mRet (mBin (fAdd false) (mBin (fAdd false) (mSl (fSl false) (mV 1) mNoPart (mPart (mV 4))) (mV 3)) (mSl (fSl false) (mV 1) (mPart (mBin (fAdd false) (mV 4) (mC (.int 1)))) mNoPart))) mPass)
  (mSeq (mAsg (.nm 6) (mMt "str" (fSplit false) (mV 1) (mCons (mC (.str "\n")) mNil)))
  (mSeq (mAsg (.nm 7) (mCall m__law_draw (mCons (mV 0) (mCons (mCallB fLen (mCons (mV 6) mNil)) mNil))))
  (mSeq (mIfS (tB_ (mBin fEq (mV 5) (mC (.int 5)))) (mRet (mMt "str" fJoin (mC (.str "\n")) (mCons (mBin (fAdd false) (mSl (fSl false) (mV 6) mNoPart (mPart (mV 7))) (mSl (fSl false) (mV 6) (mPart (mBin (fAdd false) (mV 7) (mC (.int 1)))) mNoPart)) mNil))) mPass)
  (mSeq (mIfS (tB_ (mBin fEq (mV 5) (mC (.int 6)))) (mRet (mMt "str" fJoin (mC (.str "\n")) (mCons (mBin (fAdd false) (mSl (fSl false) (mV 6) mNoPart (mPart (mBin (fAdd false) (mV 7) (mC (.int 1))))) (mSl (fSl false) (mV 6) (mPart (mV 7)) mNoPart)) mNil))) mPass)
  (mSeq (mAsg (.nm 8) (mLst true (mCons (mC (.str "")) (mCons (mC (.str " ")) (mCons (mC (.str "piece 1 1")) (mCons (mC (.str "piece 1000001 1")) (mCons (mC (.str "piece 0 1")) (mCons (mC (.str "piece 1 0")) (mCons (mC (.str "piece 1 251,1")) (mCons (mC (.str "piece 01 1")) (mCons (mC (.str "web 4 2")) mNil)))))))))))
  (mSeq (mAsg (.nm 8) (mBin (fAdd true) (mV 8) (mLst false (mCons (mC (.str "web 2 11")) (mCons (mC (.str "web 2 0")) (mCons (mC (.str "piece 1 1,")) (mCons (mC (.str "piece 1  1")) (mCons (mC (.str "piece 1000000000 1")) (mCons (mC (.str "piece 1 1,00")) mNil)))))))))
  (mSeq (mExpr (mMt "list" fAppend (mV 8) (mCons (mC (.str "web 999999999 1")) mNil)))
  (mSeq (mAsg (.nm 9) (mBin fIx (mV 8) (mCall m__law_draw (mCons (mV 0) (mCons (mC (.int 16)) mNil))))) rest)))))))))))))))) →
                b__law_spoilt [some (.ref 0), some (.str s), none, none, none, none, none, none, none, none] (bagH cs a b t e) = R := fun rest R hR hB => by
              rw [hB, ← hR]
              refine (seq_nx (ρ1 := [some (.ref 0), some (.str s), some (.str signs), none, none, none, none, none, none, none]) (h1 := bagH cs a b t e) (by simp [mV, esg])).trans ?_
              refine (seq_nx (ρ1 := [some (.ref 0), some (.str s), some (.str signs), some (.str z), none, none, none, none, none, none]) (h1 := bagH cs a1 b1 t1 e) (by simp [mV, lsg, e1, ez])).trans ?_
              refine (seq_nx (ρ1 := [some (.ref 0), some (.str s), some (.str signs), some (.str z), some (.int v2), none, none, none, none, none]) (h1 := bagH cs a2 b2 t2 e) (by simp [mV, ls, e2])).trans ?_
              refine (seq_nx (ρ1 := [some (.ref 0), some (.str s), some (.str signs), some (.str z), some (.int v2), some (.int v3), none, none, none, none]) (h1 := bagH cs a3 b3 t3 e) (by simp [mV, e3])).trans ?_
              refine (seq_nx (ρ1 := [some (.ref 0), some (.str s), some (.str signs), some (.str z), some (.int v2), some (.int v3), none, none, none, none]) (h1 := bagH cs a3 b3 t3 e) (by simp [mV, fI, k2])).trans ?_
              refine (seq_nx (ρ1 := [some (.ref 0), some (.str s), some (.str signs), some (.str z), some (.int v2), some (.int v3), none, none, none, none]) (h1 := bagH cs a3 b3 t3 e) (by simp [mV, fI, k4])).trans ?_
              refine (seq_nx (ρ1 := [some (.ref 0), some (.str s), some (.str signs), some (.str z), some (.int v2), some (.int v3), none, none, none, none]) (h1 := bagH cs a3 b3 t3 e) (by simp [mV, k5])).trans ?_
              refine (seq_nx (ρ1 := [some (.ref 0), some (.str s), some (.str signs), some (.str z), some (.int v2), some (.int v3), some (.lst (ls'.map PV.str)), none, none, none]) (h1 := bagH cs a3 b3 t3 e) (by simp [mV, isT, isS, sp])).trans ?_
              refine (seq_nx (ρ1 := [some (.ref 0), some (.str s), some (.str signs), some (.str z), some (.int v2), some (.int v3), some (.lst (ls'.map PV.str)), some (.int v4), none, none]) (h1 := bagH cs a4 b4 t4 e) (by simp [mV, ll, e4])).trans ?_
              refine (seq_nx (ρ1 := [some (.ref 0), some (.str s), some (.str signs), some (.str z), some (.int v2), some (.int v3), some (.lst (ls'.map PV.str)), some (.int v4), none, none]) (h1 := bagH cs a4 b4 t4 e) (by simp [mV, k6])).trans ?_
              refine (seq_nx (ρ1 := [some (.ref 0), some (.str s), some (.str signs), some (.str z), some (.int v2), some (.int v3), some (.lst (ls'.map PV.str)), some (.int v4), none, none]) (h1 := bagH cs a4 b4 t4 e) (by simp [mV, k7])).trans ?_
              refine (seq_nx (ρ1 := [some (.ref 0), some (.str s), some (.str signs), some (.str z), some (.int v2), some (.int v3), some (.lst (ls'.map PV.str)), some (.int v4), some (.ref (e.length + 1)), none]) (h1 := bagH cs a4 b4 t4 e ++ [.lst (more1.map PV.str)]) (by rw [st8]; simp only [ev_mAsg, ev_st_ok, ev_asg_nm, List.set_cons_succ, List.set_cons_zero, bl])).trans ?_
              refine (seq_nx (ρ1 := [some (.ref 0), some (.str s), some (.str signs), some (.str z), some (.int v2), some (.int v3), some (.lst (ls'.map PV.str)), some (.int v4), some (.ref (e.length + 2)), none]) (h1 := bagH cs a4 b4 t4 e ++ [.lst (more1.map PV.str)] ++ [.lst (more1.map PV.str ++ more2.map PV.str)]) (by rw [el2]; simp only [ev_mAsg, ev_mBin, mV, List.getElem?_cons_succ, List.getElem?_cons_zero, ev_bind_ok, ad, ev_opt_some, ev_st_ok, ev_asg_nm, List.set_cons_succ, List.set_cons_zero])).trans ?_
              refine (seq_nx (ρ1 := [some (.ref 0), some (.str s), some (.str signs), some (.str z), some (.int v2), some (.int v3), some (.lst (ls'.map PV.str)), some (.int v4), some (.ref (e.length + 2)), none]) (h1 := bagH cs a4 b4 t4 (e ++ [.lst (more1.map PV.str), .lst (more3.map PV.str)])) ?_).trans ?_
              · have g : (bagH cs a4 b4 t4 e ++ [.lst (more1.map PV.str)] ++ [.lst (more1.map PV.str ++ more2.map PV.str)])[e.length + 2]? = some (.lst (more1.map PV.str ++ more2.map PV.str)) := by
                  rw [← lz]; exact app_get _ _
                generalize bagH cs a4 b4 t4 e ++ [.lst (more1.map PV.str)] ++ [.lst (more1.map PV.str ++ more2.map PV.str)] = hh at ap g
                simp [mV, isT, asL, g, ap]
              refine seq_nx (ρ1 := [some (.ref 0), some (.str s), some (.str signs), some (.str z), some (.int v2), some (.int v3), some (.lst (ls'.map PV.str)), some (.int v4), some (.ref (e.length + 2)), some (.str one)]) (h1 := bagH cs a5 b5 t5 (e ++ [.lst (more1.map PV.str), .lst (more3.map PV.str)])) ?_
              simp only [ev_mAsg, ev_mBin, ev_mCall, ev_mCons, ev_mNil, ev_mC, mV, List.getElem?_cons_succ, List.getElem?_cons_zero, ev_bind_ok, e5, ip, ev_opt_some, ev_st_ok, ev_asg_nm, List.set_cons_succ, List.set_cons_zero]
            by_cases k8 : v3 = 7
            · refine ⟨r1, a5, b5, t5, def_rt (h1 := bagH cs a5 b5 t5 (e ++ [.lst (more1.map PV.str), .lst (more3.map PV.str)])) rfl (start _ _ ?_ rfl) (outF_out he rfl), m3, m4, f2⟩
              refine seq_rt ?_
              simp [mV, k8, isT, isS, sl, sizeLine_eq, A1, A2, f1]
            · refine ⟨r2, a5, b5, t5, def_rt (h1 := bagH cs a5 b5 t5 (e ++ [.lst (more1.map PV.str), .lst (more3.map PV.str)])) rfl (start _ _ ?_ rfl) (outF_out he rfl), m3, m4, f4⟩
              refine (seq_nx (ρ1 := [some (.ref 0), some (.str s), some (.str signs), some (.str z), some (.int v2), some (.int v3), some (.lst (ls'.map PV.str)), some (.int v4), some (.ref (e.length + 2)), some (.str one)]) (h1 := bagH cs a5 b5 t5 (e ++ [.lst (more1.map PV.str), .lst (more3.map PV.str)])) (by simp [mV, k8])).trans ?_
              simp [mV, isT, isS, sl, sizeLine_eq, A1, A2, f3]
end
end Ev
set_option maxHeartbeats 4000000
/-! Q8: read_web. -/
namespace Ev
open PySem PySem.Spec PyProof.Rows L2
/-- the lines of a text: all but the last, and the last -/
theorem lines_eq {s : Str} (hl : s.length ≤ 1000000) (h : PH) : ∃ init last, Txt.split s "\n" = init ++ [last] ∧ m_lines_in [.str s] h = .ok (.tup [.lst (init.map PV.str), .str last]) h := by
  obtain ⟨init, last, e⟩ : ∃ init last, Txt.split s "\n" = init ++ [last] := ⟨_, _, (List.dropLast_concat_getLast (split_ne _ _)).symm⟩
  refine ⟨init, last, e, mDef_run rfl ?_⟩
  have sp := split_nl hl h
  rw [e] at sp
  have c := cut_init ((init ++ [last]).map PV.str)
  have c2 : ((init ++ [last]).map PV.str).dropLast = init.map PV.str := by rw [List.map_append, List.map_singleton, List.dropLast_concat]
  rw [c2] at c
  have il := ix_last (init.map PV.str) (.str last) h
  rw [List.map_append, List.map_singleton] at c sp
  simp [b_lines_in, mV, fIsi, tyN, isT, isS, sp, fNeg, fSl, asL, c, il, sizeLine_eq, outF_same]
/-- what is no text -/
theorem lines_bad {p : PV} (hk : pk p = true) (hs : ∀ s, p ≠ .str s) (h : PH) : m_lines_in [p] h = .ex "BadText" ["line"] [.int 0] h := mDef_run rfl (by
  cases p with
  | str s => exact absurd rfl (hs s)
  | _ => first | (simp [pk] at hk; done) | simp [b_lines_in, mV, fIsi, tyN, X_line.mRaise, PySem.FldX_line.fld, outX_same])
def initL (s : Str) : List Str := (Txt.split s "\n").dropLast
def lastL (s : Str) : Str := (Txt.split s "\n").getLast (split_ne _ _)
/-- the first bad line (counted from 1), and the pieces ahead of it -/
def scanP : List Str → Nat → Option Nat × List (List Int × Int)
  | [], _ => (none, [])
  | l :: ls, k => match pieceF l with
    | none => (some (k + 1), [])
    | some y => ((scanP ls (k + 1)).1, y :: (scanP ls (k + 1)).2)
inductive RdO where
  | text (n : Int)
  | web (v : PV)
  | read (p m : Int) (ys : List (List Int × Int))
def rdF (s : Str) : RdO := match initL s with
  | [] => .text 1
  | l :: ls => match headF l with
    | none => .text 1
    | some (p, m) => match (scanP ls 1).1 with
      | some n => .text n
      | none => if lastL s ≠ "" then .text (ls.length + 2 : Nat) else match badW p m (scanP ls 1).2 with
        | some v => .web v
        | none => .read p m (scanP ls 1).2
def rdX : RdO → PH → Out PV
  | .text n, h => .ex "BadText" ["line"] [.int n] h
  | .web v, h => .ex "BadWeb" ["part"] [v] h
  | .read p m ys, h => .ok (.ins "Web" fsW (webI p m ys)) h
noncomputable abbrev readB : SM := mSeq (mAsg (.nm 7) (mIf (tB_ (mBin fEq (mV 5) (mC (.int 0)))) (mCall m_numbers_behind (mCons (mV 6) (mCons (mC (.str "web")) (mCons (mC (.int 1)) mNil)))) (mCall m_numbers_behind (mCons (mV 6) (mCons (mC (.str "piece")) (mCons (mC (.int 0)) mNil))))))
  (mSeq (mIfS (tB_ (mBin fIsN (mV 7) (mC .non))) (X_line.mRaise "BadText" (mCons (mBin (fAdd false) (mV 5) (mC (.int 1))) mNil)) mPass)
  (mIfS (tB_ (mBin fEq (mV 5) (mC (.int 0)))) (mAsg (.nm 3) (mV 7)) (mExpr (mMt "list" fAppend (mV 4) (mCons (mTup (mCons (mBin fIx (mV 7) (mC (.int 1))) (mCons (mBin fIx (mV 7) (mC (.int 0))) mNil))) mNil)))))
theorem read_step (h : PH) (x0 x1 x2 x3 : PV) (k : Nat) (hk : k ≠ 0) (l : Str) (hl : l.length ≤ 1000000) (acc : List (List Int × Int)) (hz : acc.length < 16777216) (c : Option PV) :
    readB [some x0, some x1, some x2, some x3, some (.ref h.length), some (.int k), some (.str l), c] (h ++ [.lst (acc.map pcP)]) =
      (match pieceF l with
        | none => .ex "BadText" ["line"] [.int (k + 1 : Nat)] [some x0, some x1, some x2, some x3, some (.ref h.length), some (.int k), some (.str l), some .non] (h ++ [.lst (acc.map pcP)])
        | some y => .nx [some x0, some x1, some x2, some x3, some (.ref h.length), some (.int k), some (.str l), some (pP (some y))] (h ++ [.lst ((acc ++ [y]).map pcP)])) := by
  have e := behind_piece hl (h ++ [.lst (acc.map pcP)])
  have k0 : fEq (.int (k : Int)) (.int 0) (h ++ [.lst (acc.map pcP)]) = some (.bl false, h ++ [.lst (acc.map pcP)]) := by simp [hk]
  unfold readB
  refine (seq_nx (ρ1 := [some x0, some x1, some x2, some x3, some (.ref h.length), some (.int k), some (.str l), some (pP (pieceF l))]) (h1 := h ++ [.lst (acc.map pcP)]) ?_).trans ?_
  · simp only [ev_mAsg, ev_mIf, ev_tB, ev_mBin, ev_mC, mV, List.getElem?_cons_succ, List.getElem?_cons_zero, ev_bind_ok, k0, ev_opt_some, ev_asB, Bool.false_eq_true, if_false, ev_mCall, ev_mCons, ev_mNil, e, ev_st_ok, ev_asg_nm, List.set_cons_succ, List.set_cons_zero]
  cases hf : pieceF l with
  | none =>
    refine seq_ex ?_
    simp [mV, pP, fIsN, isN, X_line.mRaise, PySem.FldX_line.fld]
  | some y =>
    obtain ⟨vs, z⟩ := y
    refine (seq_nx (ρ1 := [some x0, some x1, some x2, some x3, some (.ref h.length), some (.int k), some (.str l), some (pP (some (vs, z)))]) (h1 := h ++ [.lst (acc.map pcP)]) (by simp [mV, pP, fIsN, isN])).trans ?_
    have am : acc.map pcP ++ [pcP (vs, z)] = (acc ++ [(vs, z)]).map pcP := by simp
    have i0 := ix0 (.int z) [.tup (vs.map .int)] (h ++ [.lst (acc.map pcP)])
    have i1 := ix1 (.int z) (.tup (vs.map .int)) [] (h ++ [.lst (acc.map pcP)])
    show _ = SO.nx [some x0, some x1, some x2, some x3, some (.ref h.length), some (.int k), some (.str l), some (pP (some (vs, z)))] (h ++ [.lst ((acc ++ [(vs, z)]).map pcP)])
    rw [← am]
    simp [mV, hk, pP, i0, i1, isT, isS, asL, app_get, fAppend, sizeLine_eq, hz, app_set, pcP]
theorem read_loop (h : PH) (x0 x1 x2 x3 : PV) : ∀ (ls : List Str) (k : Nat) (acc : List (List Int × Int)) (a b c : Option PV), k ≠ 0 → (∀ l ∈ ls, l.length ≤ 1000000) → acc.length + ls.length ≤ 1000001 →
    ∃ (ρ' : Ro) (acc' : List (List Int × Int)), forL (fun _ => true) (.tp [.nm 5, .nm 6]) readB (enumFrom k (ls.map PV.str)) [some x0, some x1, some x2, some x3, some (.ref h.length), a, b, c] (h ++ [.lst (acc.map pcP)]) =
      (match (scanP ls k).1 with
        | none => .nx ([some x0, some x1, some x2, some x3, some (.ref h.length)] ++ ρ') (h ++ [.lst ((acc ++ (scanP ls k).2).map pcP)])
        | some n => .ex "BadText" ["line"] [.int n] ([some x0, some x1, some x2, some x3, some (.ref h.length)] ++ ρ') (h ++ [.lst (acc'.map pcP)]))
  | [], k, acc, a, b, c, _, _, _ => ⟨[a, b, c], acc, by simp [forL, enumFrom, scanP]⟩
  | l :: ls, k, acc, a, b, c, hk, hl, hn => by
    have hz : acc.length < 16777216 := by simp at hn; omega
    have st := read_step h x0 x1 x2 x3 k hk l (hl l List.mem_cons_self) acc hz c
    have ag : ∀ ρ5 ρ6 : Option PV, asg (.tp [.nm 5, .nm 6]) (.tup [.int (k : Int), .str l]) [some x0, some x1, some x2, some x3, some (.ref h.length), ρ5, ρ6, c] = some [some x0, some x1, some x2, some x3, some (.ref h.length), some (.int k), some (.str l), c] := fun _ _ => by simp [asg, asgs, asT]
    cases hf : pieceF l with
    | none =>
      rw [hf] at st
      refine ⟨[some (.int k), some (.str l), some .non], acc, ?_⟩
      simp only [List.map_cons, enumFrom, forL, ag, st, scanP, hf, if_true]
      rfl
    | some y =>
      rw [hf] at st
      obtain ⟨ρ', acc', ih⟩ := read_loop h x0 x1 x2 x3 ls (k + 1) (acc ++ [y]) (some (.int k)) (some (.str l)) (some (pP (some y))) (by omega) (fun z hz => hl z (List.mem_cons_of_mem _ hz)) (by simp at hn ⊢; omega)
      refine ⟨ρ', acc', ?_⟩
      have as : (acc ++ [y]) ++ (scanP ls (k + 1)).2 = acc ++ (y :: (scanP ls (k + 1)).2) := by simp
      rw [as] at ih
      simp only [scanP, hf]
      rw [← ih]
      simp only [List.map_cons, enumFrom, forL, ag, st, if_true]
/-- a new instance is given out by its content -/
theorem outF_ins {h : PH} {xs ws : List PV} {c : Str} {fs : List Str} (hh : h.all nrO = true) (hw : nrs ws = true) : outF true h.length (.ref (h.length + 1)) (h ++ [.lst xs] ++ [.ins c fs ws]) = .ok (.ins c fs ws) h := by
  unfold outF
  have g : (h ++ [PO.lst xs] ++ [PO.ins c fs ws])[h.length + 1]? = some (.ins c fs ws) := by
    have := app_get (h ++ [PO.lst xs]) (.ins c fs ws)
    rwa [List.length_append] at this
  have r : res (h ++ [PO.lst xs] ++ [PO.ins c fs ws]) h.length 5 (h.length + 1) = .ins c fs ws := by
    rw [res, if_neg (by omega), g]
    show PV.ins c fs (subs _ ws) = _
    rw [subs_nr hw]
  split
  · rename_i k
    rcases k with k | k
    · simp at k
    · cases k
  · have tk : (h ++ [PO.lst xs] ++ [PO.ins c fs ws]).take h.length = h := by rw [List.append_assoc, List.take_left]
    rw [tk]
    have e1 : sub (res (h ++ [PO.lst xs] ++ [PO.ins c fs ws]) h.length 5) (.ref (h.length + 1)) = .ins c fs ws := by
      simp only [sub]
      exact r
    have cn : cl h.length (.ins c fs ws) = true := by simp only [cl]; exact cls_nr hw
    rw [e1, cn, mapO_nr hh, allO_nr hh]
    rfl
theorem nrs_pcs : ∀ ys : List (List Int × Int), nrs (ys.map pcP) = true
  | [] => rfl
  | y :: ys => by
    simp only [List.map_cons, nrs, Bool.and_eq_true]
    exact ⟨by simp [pcP, nr, nrs, nrs_ints], nrs_pcs ys⟩
theorem nrs_web (p m : Int) (ys : List (List Int × Int)) : nrs (webI p m ys) = true := by simp [webI, nrs, nr, nrs_pcs]
theorem badW_nr {p m : Int} {ys : List (List Int × Int)} {v : PV} (e : badW p m ys = some v) : nr v = true := by
  unfold badW at e
  split at e
  · cases e; rfl
  · split at e
    · cases e; rfl
    · split at e
      · cases e; rfl
      · cases hb : firstBad p m ys 0 with
        | none => rw [hb] at e; cases e
        | some k => rw [hb] at e; cases e; rfl
theorem read_eq {s : Str} (hl : s.length ≤ 1000000) (hn : (initL s).length ≤ 1000000) (h : PH) (hh : h.all nrO = true) : m_read_web [.str s] h = rdX (rdF s) h := by
  obtain ⟨init, last, e1, e2⟩ := lines_eq hl h
  have ei : initL s = init := by unfold initL; rw [e1, List.dropLast_concat]
  have el : lastL s = last := by unfold lastL; simp [e1]
  have hlen : ∀ l ∈ init, l.length ≤ 1000000 := fun l hm => Nat.le_trans (split_len s "\n" l (by rw [e1]; exact List.mem_append_left _ hm)) hl
  rw [ei] at hn
  have start : ∀ rest, mSeq (mAsg (.tp [(.nm 1), (.nm 2)]) (mCall m_lines_in (mCons (mV 0) mNil))) (mSeq (mPar 3 4 (mCons (mC .non) (mCons (mLst true mNil) mNil))) rest) [some (.str s), none, none, none, none, none, none, none] h =
      rest [some (.str s), some (.lst (init.map PV.str)), some (.str last), some .non, some (.ref h.length), none, none, none] (h ++ [.lst []]) := fun rest => by
    refine (seq_nx (ρ1 := [some (.str s), some (.lst (init.map PV.str)), some (.str last), none, none, none, none, none]) (h1 := h) (by simp [mV, e2, asg, asgs, asT])).trans ?_
    exact seq_nx (by simp [mPar, sizeLine_eq])
  have it : mItA itEnum2 (mCons (mV 1) mNil) [some (.str s), some (.lst (init.map PV.str)), some (.str last), some .non, some (.ref h.length), none, none, none] (h ++ [.lst []]) = .ok ⟨enumFrom 0 (init.map PV.str), fun _ => true⟩ (h ++ [.lst []]) := by
    refine (mItA_eq (f := itEnum2) (ps := [.lst (init.map PV.str)]) (h1 := h ++ [.lst []]) (by simp [mV])).trans ?_
    rfl
  have ln : ∀ h, fLen [.lst (init.map PV.str)] h = some (.int (init.length : Int), h) := fun h => by simp [fLen, asQ, asL]
  -- what follows the loop when the text is not whole
  have notWhole : ∀ (n : Int) (hd : Option PV) (ρ' : Ro) (xs : List PV), n = (init.length : Int) + 1 → (last ≠ "" ∨ hd = some .non) → (∃ p, hd = some p) → ∀ A rest, A [some (.str s), some (.lst (init.map PV.str)), some (.str last), some .non, some (.ref h.length), none, none, none] (h ++ [.lst []]) = .nx ([some (.str s), some (.lst (init.map PV.str)), some (.str last), hd, some (.ref h.length)] ++ ρ') (h ++ [.lst xs]) →
      (mSeq A (mSeq (mIfS (tOr_ (tB_ (mBin fNe (mV 2) (mC (.str "")))) (tB_ (mBin fIsN (mV 3) (mC .non)))) (X_line.mRaise "BadText" (mCons (mBin (fAdd false) (mCallB fLen (mCons (mV 1) mNil)) (mC (.int 1))) mNil)) mPass) rest)) [some (.str s), some (.lst (init.map PV.str)), some (.str last), some .non, some (.ref h.length), none, none, none] (h ++ [.lst []]) =
        .ex "BadText" ["line"] [.int n] ([some (.str s), some (.lst (init.map PV.str)), some (.str last), hd, some (.ref h.length)] ++ ρ') (h ++ [.lst xs]) := by
    intro n hd ρ' xs hn' hc ⟨p, hp⟩ A rest hA
    subst hp
    refine (seq_nx hA).trans (seq_ex ?_)
    subst hn'
    by_cases hq : last = ""
    · have : p = .non := by
        rcases hc with z | z
        · exact absurd hq z
        · cases z; rfl
      subst this
      subst hq
      simp [mV, fIsN, isN, ln, X_line.mRaise, PySem.FldX_line.fld]
    · simp [mV, hq, ln, X_line.mRaise, PySem.FldX_line.fld]
  unfold rdF
  rw [ei, el]
  cases init with
  | nil =>
    refine def_ex (h1 := h ++ [.lst []]) (ρ := [some (.str s), some (.lst []), some (.str last), some .non, some (.ref h.length), none, none, none]) rfl ?_ (outX_nr (h := h) (e := [.lst []]) (c := "BadText") (fs := ["line"]) (xs := [.int 1]) hh rfl)
    show b_read_web [some (.str s), none, none, none, none, none, none, none] h = _
    unfold b_read_web
    refine (start _).trans ?_
    exact notWhole 1 (some .non) [none, none, none] [] rfl (.inr rfl) ⟨_, rfl⟩ _ _ (for_eq it (by simp [forL, enumFrom]))
  | cons l ls =>
    dsimp only
    have hb := behind_web (hlen l List.mem_cons_self) (h ++ [.lst []])
    have ag : asg (.tp [.nm 5, .nm 6]) (.tup [.int 0, .str l]) [some (.str s), some (.lst ((l :: ls).map PV.str)), some (.str last), some .non, some (.ref h.length), none, none, none] = some [some (.str s), some (.lst ((l :: ls).map PV.str)), some (.str last), some .non, some (.ref h.length), some (.int 0), some (.str l), none] := by simp [asg, asgs, asT]
    have b1 : ∀ rest, mSeq (mAsg (.nm 7) (mIf (tB_ (mBin fEq (mV 5) (mC (.int 0)))) (mCall m_numbers_behind (mCons (mV 6) (mCons (mC (.str "web")) (mCons (mC (.int 1)) mNil)))) (mCall m_numbers_behind (mCons (mV 6) (mCons (mC (.str "piece")) (mCons (mC (.int 0)) mNil)))))) rest [some (.str s), some (.lst ((l :: ls).map PV.str)), some (.str last), some .non, some (.ref h.length), some (.int 0), some (.str l), none] (h ++ [.lst []]) =
        rest [some (.str s), some (.lst ((l :: ls).map PV.str)), some (.str last), some .non, some (.ref h.length), some (.int 0), some (.str l), some (hP (headF l))] (h ++ [.lst []]) := fun rest => seq_nx (by
      have k0 : fEq (.int 0) (.int 0) (h ++ [.lst []]) = some (.bl true, h ++ [.lst []]) := by simp
      simp only [ev_mAsg, ev_mIf, ev_tB, ev_mBin, ev_mC, mV, List.getElem?_cons_succ, List.getElem?_cons_zero, ev_bind_ok, k0, ev_opt_some, ev_asB, if_true, ev_mCall, ev_mCons, ev_mNil, hb, ev_st_ok, ev_asg_nm, List.set_cons_succ, List.set_cons_zero])
    cases hf : headF l with
    | none =>
      dsimp only
      rw [hf] at b1
      refine def_ex (h1 := h ++ [.lst []]) (ρ := [some (.str s), some (.lst ((l :: ls).map PV.str)), some (.str last), some .non, some (.ref h.length), some (.int 0), some (.str l), some .non]) rfl ?_ (outX_nr (h := h) (e := [.lst []]) (c := "BadText") (fs := ["line"]) (xs := [.int 1]) hh rfl)
      show b_read_web [some (.str s), none, none, none, none, none, none, none] h = _
      unfold b_read_web
      refine (start _).trans (seq_ex (for_eq it ?_))
      have body : readB [some (.str s), some (.lst ((l :: ls).map PV.str)), some (.str last), some .non, some (.ref h.length), some (.int 0), some (.str l), none] (h ++ [.lst []]) = .ex "BadText" ["line"] [.int 1] [some (.str s), some (.lst ((l :: ls).map PV.str)), some (.str last), some .non, some (.ref h.length), some (.int 0), some (.str l), some .non] (h ++ [.lst []]) := by
        refine (b1 _).trans (seq_ex ?_)
        simp [mV, hP, fIsN, isN, X_line.mRaise, PySem.FldX_line.fld]
      have en : enumFrom 0 ((l :: ls).map PV.str) = .tup [.int 0, .str l] :: enumFrom 1 (ls.map PV.str) := rfl
      rw [en]
      simp only [forL, ag, body, if_true]
    | some pm =>
      obtain ⟨p, m⟩ := pm
      dsimp only
      rw [hf] at b1
      have body : readB [some (.str s), some (.lst ((l :: ls).map PV.str)), some (.str last), some .non, some (.ref h.length), some (.int 0), some (.str l), none] (h ++ [.lst []]) = .nx [some (.str s), some (.lst ((l :: ls).map PV.str)), some (.str last), some (.lst [.int p, .int m]), some (.ref h.length), some (.int 0), some (.str l), some (.lst [.int p, .int m])] (h ++ [.lst []]) := by
        refine (b1 _).trans ?_
        refine (seq_nx (ρ1 := [some (.str s), some (.lst ((l :: ls).map PV.str)), some (.str last), some .non, some (.ref h.length), some (.int 0), some (.str l), some (.lst [.int p, .int m])]) (h1 := h ++ [.lst []]) (by simp [mV, hP, fIsN, isN])).trans ?_
        simp [mV]
      obtain ⟨ρ', acc', lp⟩ := read_loop h (.str s) (.lst ((l :: ls).map PV.str)) (.str last) (.lst [.int p, .int m]) ls 1 [] (some (.int 0)) (some (.str l)) (some (.lst [.int p, .int m])) (by decide) (fun z hz => hlen z (List.mem_cons_of_mem _ hz)) (by simp at hn ⊢; omega)
      have whole : forL (fun _ => true) (.tp [.nm 5, .nm 6]) readB (enumFrom 0 ((l :: ls).map PV.str)) [some (.str s), some (.lst ((l :: ls).map PV.str)), some (.str last), some .non, some (.ref h.length), none, none, none] (h ++ [.lst []]) = forL (fun _ => true) (.tp [.nm 5, .nm 6]) readB (enumFrom 1 (ls.map PV.str)) [some (.str s), some (.lst ((l :: ls).map PV.str)), some (.str last), some (.lst [.int p, .int m]), some (.ref h.length), some (.int 0), some (.str l), some (.lst [.int p, .int m])] (h ++ [.lst []]) := by
        have en : enumFrom 0 ((l :: ls).map PV.str) = .tup [.int 0, .str l] :: enumFrom 1 (ls.map PV.str) := rfl
        rw [en]
        simp only [forL, ag, body, if_true]
      simp only [List.map_nil, List.nil_append] at lp
      have lp2 := for_eq it (whole.trans lp)
      cases hs : (scanP ls 1).1 with
      | some n =>
        rw [hs] at lp2
        refine def_ex (h1 := h ++ [.lst (acc'.map pcP)]) (ρ := [some (.str s), some (.lst ((l :: ls).map PV.str)), some (.str last), some (.lst [.int p, .int m]), some (.ref h.length)] ++ ρ') rfl ?_ (outX_nr (h := h) (e := [.lst (acc'.map pcP)]) (c := "BadText") (fs := ["line"]) (xs := [.int n]) hh rfl)
        show b_read_web [some (.str s), none, none, none, none, none, none, none] h = _
        unfold b_read_web
        exact (start _).trans (seq_ex lp2)
      | none =>
        rw [hs] at lp2
        simp only at lp2
        generalize (scanP ls 1).2 = ys at lp2 ⊢
        by_cases h1 : last = ""
        · subst h1
          simp only [ne_eq, not_true_eq_false, if_false]
          have lz : (h ++ [PO.lst (ys.map pcP)]).length = h.length + 1 := by simp
          have ie := init_eq (h ++ [PO.lst (ys.map pcP)]).length p m ys (h ++ [PO.lst (ys.map pcP)] ++ [.ins "Web" [] []]) (app_get _ _)
          have i0 := fun h => ix0 (.int p) [.int m] h
          have i1 := fun h => ix1 (.int p) (.int m) [] h
          have tp : fTuple [.ref h.length] (h ++ [.lst (ys.map pcP)]) = some (.tup (ys.map pcP), h ++ [.lst (ys.map pcP)]) := by simp [fTuple, asQ, asL]
          have s2 : ∀ rest, mSeq (mIfS (tOr_ (tB_ (mBin fNe (mV 2) (mC (.str "")))) (tB_ (mBin fIsN (mV 3) (mC .non)))) (X_line.mRaise "BadText" (mCons (mBin (fAdd false) (mCallB fLen (mCons (mV 1) mNil)) (mC (.int 1))) mNil)) mPass) rest ([some (.str s), some (.lst ((l :: ls).map PV.str)), some (.str ""), some (.lst [.int p, .int m]), some (.ref h.length)] ++ ρ') (h ++ [.lst (ys.map pcP)]) = rest ([some (.str s), some (.lst ((l :: ls).map PV.str)), some (.str ""), some (.lst [.int p, .int m]), some (.ref h.length)] ++ ρ') (h ++ [.lst (ys.map pcP)]) := fun rest => seq_nx (by simp [mV, fIsN, isN])
          have as : (mCons (mBin fIx (mV 3) (mC (.int 0))) (mCons (mBin fIx (mV 3) (mC (.int 1))) (mCons (mCallB fTuple (mCons (mV 4) mNil)) mNil))) ([some (.str s), some (.lst ((l :: ls).map PV.str)), some (.str ""), some (.lst [.int p, .int m]), some (.ref h.length)] ++ ρ') (h ++ [.lst (ys.map pcP)]) = .ok [.int p, .int m, .tup (ys.map pcP)] (h ++ [.lst (ys.map pcP)]) := by
            simp [mV, i0, i1, tp]
          cases hb : badW p m ys with
          | some v =>
            rw [hb] at ie
            have oo := outX_nr (h := h) (e := [PO.lst (ys.map pcP), .ins "Web" [] []]) (c := "BadWeb") (fs := ["part"]) (xs := [v]) hh (by simp [nrs, badW_nr hb])
            rw [show h ++ [PO.lst (ys.map pcP), .ins "Web" [] []] = h ++ [PO.lst (ys.map pcP)] ++ [.ins "Web" [] []] by simp] at oo
            refine def_ex (ρ := [some (.str s), some (.lst ((l :: ls).map PV.str)), some (.str ""), some (.lst [.int p, .int m]), some (.ref h.length)] ++ ρ') rfl ?_ oo
            show b_read_web [some (.str s), none, none, none, none, none, none, none] h = _
            unfold b_read_web
            refine (start _).trans ((seq_nx lp2).trans ((s2 _).trans ?_))
            simp only [ev_mRet, mNewC, as, ev_bind_ok, ie]
            rfl
          | none =>
            rw [hb] at ie
            rw [app_set, lz] at ie
            have oo := outF_ins (h := h) (xs := ys.map pcP) (c := "Web") (fs := fsW) hh (nrs_web p m ys)
            refine def_rt rfl ?_ oo
            show b_read_web [some (.str s), none, none, none, none, none, none, none] h = _
            unfold b_read_web
            refine (start _).trans ((seq_nx lp2).trans ((s2 _).trans ?_))
            simp only [ev_mRet, mNewC, as, ev_bind_ok, ie, ev_st_ok, lz]
        · rw [if_pos h1]
          refine def_ex (h1 := h ++ [.lst (ys.map pcP)]) (ρ := [some (.str s), some (.lst ((l :: ls).map PV.str)), some (.str last), some (.lst [.int p, .int m]), some (.ref h.length)] ++ ρ') rfl ?_ (outX_nr (h := h) (e := [.lst (ys.map pcP)]) (c := "BadText") (fs := ["line"]) (xs := [.int ((ls.length + 2 : Nat) : Int)]) hh rfl)
          show b_read_web [some (.str s), none, none, none, none, none, none, none] h = _
          unfold b_read_web
          exact (start _).trans (notWhole _ (some (.lst [.int p, .int m])) ρ' (ys.map pcP) (by simp; omega) (.inl h1) ⟨_, rfl⟩ _ _ lp2)
end Ev
set_option maxHeartbeats 4000000
/-! Q9: what is due of a text; what is told of it. -/
namespace Ev
open PySem PySem.Spec PyProof.Rows L2
def rdV : RdO → PV
  | .text n => .tup [.str "text", .int n]
  | .web v => .tup [.str "web", v]
  | .read p m ys => .tup [.str "read", .int p, .int m, .tup (ys.map pcP)]
theorem numF_nn {w : Str} {i : Int} (h : numF w = some i) : 0 ≤ i := (numF_back h).2.1
theorem optAll_nn : ∀ {ws : List Str} {vs : List Int}, optAll (ws.map numF) = some vs → ∀ v ∈ vs, 0 ≤ v
  | [], vs, h, v, hv => by
    simp only [List.map_nil, optAll] at h
    cases h
    cases hv
  | w :: ws, vs, h, v, hv => by
    simp only [List.map_cons] at h
    cases hw : numF w with
    | none => rw [hw] at h; simp [optAll] at h
    | some i =>
      rw [hw] at h
      cases hr : optAll (ws.map numF) with
      | none => rw [show optAll (some i :: ws.map numF) = (optAll (ws.map numF)).map (i :: ·) from rfl, hr] at h; cases h
      | some l =>
        rw [show optAll (some i :: ws.map numF) = (optAll (ws.map numF)).map (i :: ·) from rfl, hr] at h
        cases h
        rcases List.mem_cons.mp hv with rfl | hv
        · exact numF_nn hw
        · exact optAll_nn hr v hv
theorem optAll_len : ∀ {xs : List (Option Int)} {vs : List Int}, optAll xs = some vs → vs.length = xs.length
  | xs, vs, h => by
    have := optAll_some h
    rw [this]
    simp
theorem pieceF_okR {l : Str} {y : List Int × Int} (h : pieceF l = some y) : okR y = true := by
  unfold pieceF at h
  split at h
  · rename_i w a b e
    split at h
    · cases ha : numF a with
      | none => rw [ha] at h; cases h
      | some z =>
        rw [ha] at h
        cases hb : numsF b with
        | none => rw [hb] at h; cases h
        | some vs =>
          rw [hb] at h
          cases h
          have len := optAll_len hb
          have ne := split_ne b ","
          have nn := optAll_nn hb
          unfold okR
          rw [Bool.and_eq_true_iff]
          refine ⟨decide_eq_true ?_, List.all_eq_true.mpr fun v hv => decide_eq_true (nn v hv)⟩
          intro q
          simp only at q
          rw [q] at len
          simp only [List.length_nil, List.length_map] at len
          exact ne (List.eq_nil_of_length_eq_zero len.symm)
    · cases h
  · cases h
theorem scanP_okR : ∀ (ls : List Str) (k : Nat), (scanP ls k).2.all okR = true
  | [], k => rfl
  | l :: ls, k => by
    simp only [scanP]
    cases h : pieceF l with
    | none => rfl
    | some y => simp only [List.all_cons, pieceF_okR h, scanP_okR ls (k + 1), Bool.and_true]
theorem scanP_len : ∀ (ls : List Str) (k : Nat), (scanP ls k).2.length ≤ ls.length
  | [], k => Nat.le_refl _
  | l :: ls, k => by
    simp only [scanP]
    cases h : pieceF l with
    | none => exact Nat.zero_le _
    | some y => exact Nat.succ_le_succ (scanP_len ls (k + 1))
noncomputable abbrev dueB : SM := mSeq (mAsg (.nm 4) (mCall m__law_line (mCons (mBin fIx (mV 1) (mV 3)) (mCons (mV 3) mNil))))
  (mSeq (mIfS (tB_ (mBin fIsN (mV 4) (mC .non))) (mRet (mTup (mCons (mC (.str "text")) (mCons (mBin (fAdd false) (mV 3) (mC (.int 1))) mNil)))) mPass)
  (mExpr (mMt "list" fAppend (mV 2) (mCons (mV 4) mNil))))
theorem fIsN_non (r : PV) (h : PH) : fIsN r .non h = some (.bl (isN r), h) := by cases r <;> rfl
theorem due_step (h : PH) (x0 : PV) (all : List Str) (k : Nat) (v : PV) (e : fIx (.lst (all.map PV.str)) (.int k) = fun h => some (v, h)) (r : PV) (xs : List PV) (hz : xs.length < 16777216) (b : Option PV)
    (el : m__law_line [v, .int k] (h ++ [.lst xs]) = .ok r (h ++ [.lst xs])) :
    dueB [some x0, some (.lst (all.map PV.str)), some (.ref h.length), some (.int k), b, none] (h ++ [.lst xs]) =
      (if isN r then .rt (.tup [.str "text", .int (k + 1 : Nat)]) (h ++ [.lst xs]) else .nx [some x0, some (.lst (all.map PV.str)), some (.ref h.length), some (.int k), some r, none] (h ++ [.lst (xs ++ [r])])) := by
  unfold dueB
  generalize all.map PV.str = av at e ⊢
  refine (seq_nx (ρ1 := [some x0, some (.lst av), some (.ref h.length), some (.int k), some r, none]) (h1 := h ++ [.lst xs]) ?_).trans ?_
  · simp only [ev_mAsg, ev_mCall, ev_mCons, ev_mNil, ev_mBin, mV, List.getElem?_cons_succ, List.getElem?_cons_zero, ev_bind_ok, e, ev_opt_some, el, ev_st_ok, ev_asg_nm, List.set_cons_succ, List.set_cons_zero]
  cases hr : isN r with
  | true =>
    rw [if_pos rfl]
    refine seq_rt ?_
    simp [mV, fIsN_non, hr, sizeLine_eq]
  | false =>
    rw [if_neg Bool.false_ne_true]
    refine (seq_nx (ρ1 := [some x0, some (.lst av), some (.ref h.length), some (.int k), some r, none]) (h1 := h ++ [.lst xs]) (by simp [mV, fIsN_non, hr])).trans ?_
    simp [mV, isT, isS, asL, app_get, fAppend, sizeLine_eq, hz, app_set]
theorem ix_strs (pre ls : List Str) (l last : Str) (all : List Str) (hall : all = pre ++ (l :: ls) ++ [last]) : fIx (.lst (all.map PV.str)) (.int (pre.length : Nat)) = fun h => some (.str l, h) := by
  funext h
  have hk' : pre.length < (all.map PV.str).length := by rw [List.length_map, hall]; simp
  have gl : (all.map PV.str)[pre.length] = .str l := by simp [hall]
  have ix := ix_lst (all.map PV.str) pre.length hk' h
  rw [gl] at ix
  exact ix
theorem due_loop (h : PH) (x0 hd : PV) (all : List Str) (last : Str) : ∀ (ls pre : List Str) (acc : List (List Int × Int)) (a b : Option PV), pre ≠ [] → all = pre ++ ls ++ [last] → (∀ l ∈ ls, l.length ≤ 1000000) → acc.length + ls.length ≤ 1000001 →
    ∃ (a' b' : Option PV) (acc' : List (List Int × Int)), forL (fun _ => true) (.nm 3) dueB ((List.range' pre.length ls.length).map fun k => .int (k : Nat)) [some x0, some (.lst (all.map PV.str)), some (.ref h.length), a, b, none] (h ++ [.lst (hd :: acc.map pcP)]) =
      (match (scanP ls pre.length).1 with
        | none => .nx [some x0, some (.lst (all.map PV.str)), some (.ref h.length), a', b', none] (h ++ [.lst (hd :: (acc ++ (scanP ls pre.length).2).map pcP)])
        | some n => .rt (.tup [.str "text", .int n]) (h ++ [.lst (hd :: acc'.map pcP)]))
  | [], pre, acc, a, b, _, _, _, _ => ⟨a, b, acc, by simp [forL, scanP]⟩
  | l :: ls, pre, acc, a, b, hp, hall, hl, hn => by
    have hk : ((pre.length : Nat) : Int) ≠ 0 := by
      have := List.length_pos_iff.mpr hp
      omega
    have e := lline_piece (hl l List.mem_cons_self) (pre.length : Nat) hk (h ++ [.lst (hd :: acc.map pcP)])
    have st := due_step h x0 all pre.length (.str l) (ix_strs pre ls l last all hall) _ (hd :: acc.map pcP) (by simp at hn ⊢; omega) b e
    have ra : List.range' pre.length (l :: ls).length = pre.length :: List.range' (pre ++ [l]).length ls.length := by
      rw [List.length_cons, List.range'_succ, List.length_append]; rfl
    rw [ra, List.map_cons]
    cases hf : pieceF l with
    | none =>
      rw [hf] at st
      refine ⟨none, none, acc, ?_⟩
      simp only [forL, asg, List.set_cons_succ, List.set_cons_zero, st, scanP, hf, pT, isN, if_true]
    | some y =>
      rw [hf] at st
      have ny : isN (pT (some y)) = false := rfl
      rw [ny, if_neg Bool.false_ne_true] at st
      obtain ⟨a', b', acc', ih⟩ := due_loop h x0 hd all last ls (pre ++ [l]) (acc ++ [y]) (some (.int pre.length)) (some (pT (some y))) (by simp) (by rw [hall]; simp) (fun z hz => hl z (List.mem_cons_of_mem _ hz)) (by simp at hn ⊢; omega)
      refine ⟨a', b', acc', ?_⟩
      have am : hd :: acc.map pcP ++ [pT (some y)] = hd :: (acc ++ [y]).map pcP := by simp [pT]
      have pl : (pre ++ [l]).length = pre.length + 1 := by simp
      have as : (acc ++ [y]) ++ (scanP ls (pre.length + 1)).2 = acc ++ (y :: (scanP ls (pre.length + 1)).2) := by simp
      rw [pl] at ih ⊢
      rw [as] at ih
      rw [am] at st
      simp only [scanP, hf]
      rw [← ih]
      simp only [forL, asg, List.set_cons_succ, List.set_cons_zero, st, if_true]
end Ev
set_option maxHeartbeats 4000000
/-! Q10: what is due of a text; what is told of it; sameness. -/
namespace Ev
open PySem PySem.Spec PyProof.Rows L2
theorem same_step (g : DF) (xs : List PV) (h : PH) (hl : xs.length ≤ 1000000) (ih : ∀ x ∈ xs, g [x, x] h = .ok (.bl true) h) : mDef 2 3 true (b__law_is_same g) [.tup xs, .tup xs] h = .ok (.bl true) h := mDef_run rfl (by
    have ln : fLen [.tup xs] h = some (.int xs.length, h) := by simp [fLen, asQ, asL, asT]
    have hi : mItA itRange1 (mCons (mCallB fLen (mCons (mV 1) mNil)) mNil) [some (.tup xs), some (.tup xs), none] h = .ok ⟨(List.range xs.length).map fun k => .int (k : Nat), fun _ => true⟩ h :=
      (mItA_eq (ps := [.int xs.length]) (h1 := h) (by simp [mV, ln])).trans (range1_ok _ (by omega) h)
    have lc := mLc_pure (b := false) (own := [2]) (mi := mItA itRange1 (mCons (mCallB fLen (mCons (mV 1) mNil)) mNil)) (t := .nm 2) (me := mCall g (mCons (mBin fIx (mV 0) (mV 2)) (mCons (mBin fIx (mV 1) (mV 2)) mNil)))
      (ρ := [some (.tup xs), some (.tup xs), none]) (h := h) (fun k : Nat => .int (k : Int)) (fun _ => .bl true) (List.range xs.length) hi rfl rfl
      (fun k hk => ⟨_, rfl, by
        have hk' := List.mem_range.mp hk
        have ix := ix_tup xs k hk' h
        have i2 := ih xs[k] (List.getElem_mem hk')
        simp [mV, wipeR, ix, i2]⟩) (by rw [List.length_range, sizeLine_eq]; omega)
    have ea := fAll_bl (fun _ : Nat => true) (List.range xs.length) h
    simp [b__law_is_same, mV, fIsi, tyN, ln, lc, ea, outF_same])
theorem same_str (g : DF) (s : Str) (h : PH) : mDef 2 3 true (b__law_is_same g) [.str s, .str s] h = .ok (.bl true) h := mDef_run rfl (by simp [b__law_is_same, mV, fIsi, tyN, outF_same])
theorem same_int (g : DF) (s : Int) (h : PH) : mDef 2 3 true (b__law_is_same g) [.int s, .int s] h = .ok (.bl true) h := mDef_run rfl (by simp [b__law_is_same, mV, fIsi, tyN, outF_same])
theorem same_refl (n : Nat) : ∀ (x : PV) (h : PH), sameOk n x = true → m__law_is_same n [x, x] h = .ok (.bl true) h := by
  induction n with
  | zero => intro x h e; simp [sameOk] at e
  | succ n ih =>
    intro x h e
    cases x with
    | tup xs =>
      have e' : (xs.all (sameOk n) && decide (xs.length ≤ 1000000)) = true := e
      obtain ⟨e1, e2⟩ := Bool.and_eq_true_iff.mp e'
      exact same_step _ xs h (of_decide_eq_true e2) fun x hx => ih x h (List.all_eq_true.mp e1 x hx)
    | str s => exact same_str _ s h
    | int i => exact same_int _ i h
    | _ => simp [sameOk] at e
theorem cut_tail {α : Type} (x : α) (xs : List α) : cutG (x :: xs) (some 1) none = xs := by
  unfold cutG
  have e := HT.sIx_nat (x :: xs).length 0 1
  rw [show (some (1 : Int)) = some ((1 : Nat) : Int) from rfl, e, HT.sIx_none]
  simp
theorem firstBad_none {p m : Int} : ∀ {ys : List (List Int × Int)} {k : Nat}, firstBad p m ys k = none → ∀ y ∈ ys, pieceB p m y = true
  | [], _, _, y, hy => by cases hy
  | z :: ys, k, h, y, hy => by
    unfold firstBad at h
    split at h
    · rename_i hz
      rcases List.mem_cons.mp hy with rfl | hy
      · exact hz
      · exact firstBad_none h y hy
    · cases h
theorem badW_none {p m : Int} {ys : List (List Int × Int)} (h : badW p m ys = none) : primeB p = true ∧ 1 ≤ m ∧ m ≤ 10 ∧ ys.length ≤ 40 ∧ ∀ y ∈ ys, pieceB p m y = true := by
  unfold badW at h
  cases hp : primeB p with
  | false => rw [hp] at h; simp at h
  | true =>
    rw [hp] at h
    cases hm : inIv (.int m) 1 10 with
    | false => rw [hm] at h; simp at h
    | true =>
      rw [hm] at h
      by_cases h40 : 40 < ys.length
      · rw [if_pos h40] at h; simp at h
      · rw [if_neg h40] at h
        simp only [Bool.true_eq_false, if_false] at h
        rw [inIv_int, Bool.and_eq_true_iff] at hm
        refine ⟨rfl, of_decide_eq_true hm.1, of_decide_eq_true hm.2, by omega, ?_⟩
        cases hb : firstBad p m ys 0 with
        | some k => rw [hb] at h; cases h
        | none => exact firstBad_none hb
theorem pieceB_len {p m : Int} {y : List Int × Int} (h : pieceB p m y = true) : y.1.length ≤ 10 ∧ (y.1.length : Int) = m ∧ 1 ≤ y.2 ∧ y.2 ≤ 1000000 ∧ ∀ v ∈ y.1, 0 ≤ v ∧ v ≤ p - 1 := by
  unfold pieceB sumB at h
  rw [inIv_int] at h
  simp only [Bool.and_eq_true, decide_eq_true_eq] at h
  obtain ⟨⟨⟨a1, a2⟩, a3, a4⟩, b, c1, c2⟩ := h
  refine ⟨a2, b, c1, c2, fun v hv => ?_⟩
  have := List.all_eq_true.mp a3 v hv
  rw [inIv_int, Bool.and_eq_true_iff] at this
  exact ⟨of_decide_eq_true this.1, of_decide_eq_true this.2⟩
theorem sameOk_ints (n : Nat) (vs : List Int) (h : vs.length ≤ 1000000) : sameOk (n + 2) (.tup (vs.map PV.int)) = true := by
  show ((vs.map PV.int).all (sameOk (n + 1)) && decide ((vs.map PV.int).length ≤ 1000000)) = true
  rw [List.length_map, decide_eq_true h, Bool.and_true, List.all_map]
  exact List.all_eq_true.mpr fun v _ => rfl
theorem sameOk_pcs (n : Nat) (ys : List (List Int × Int)) (h : ys.length ≤ 1000000) (h2 : ∀ y ∈ ys, y.1.length ≤ 1000000) : sameOk (n + 4) (.tup (ys.map pcP)) = true := by
  show ((ys.map pcP).all (sameOk (n + 3)) && decide ((ys.map pcP).length ≤ 1000000)) = true
  rw [List.length_map, decide_eq_true h, Bool.and_true, List.all_map]
  refine List.all_eq_true.mpr fun y hy => ?_
  have e := sameOk_ints n y.1 (h2 y hy)
  show ((sameOk (n + 2) (.tup (y.1.map PV.int)) && (true && true)) && true) = true
  rw [e]
  rfl
/-- what a text was read to be -/
theorem rdF_read {s : Str} {p m : Int} {ys : List (List Int × Int)} (h : rdF s = .read p m ys) : ∃ l ls, initL s = l :: ls ∧ headF l = some (p, m) ∧ (scanP ls 1).1 = none ∧ lastL s = "" ∧ ys = (scanP ls 1).2 ∧ badW p m ys = none := by
  unfold rdF at h
  split at h
  · cases h
  · rename_i l ls e
    split at h
    · cases h
    · rename_i p' m' e2
      split at h
      · cases h
      · rename_i e3
        split at h
        · cases h
        · rename_i e4
          split at h
          · cases h
          · rename_i e5
            cases h
            exact ⟨l, ls, e, e2, e3, Decidable.not_not.mp e4, rfl, e5⟩
theorem rdF_web {s : Str} {v : PV} (h : rdF s = .web v) : ∃ p m ys, badW p m ys = some v := by
  unfold rdF at h
  split at h
  · cases h
  · split at h
    · cases h
    · split at h
      · cases h
      · split at h
        · cases h
        · split at h
          · rename_i e5
            cases h
            exact ⟨_, _, _, e5⟩
          · cases h
theorem badW_v {p m : Int} {ys : List (List Int × Int)} {v : PV} (e : badW p m ys = some v) : (∃ s, v = .str s) ∨ ∃ k, v = .int k := by
  unfold badW at e
  split at e
  · cases e; exact .inl ⟨_, rfl⟩
  · split at e
    · cases e; exact .inl ⟨_, rfl⟩
    · split at e
      · cases e; exact .inl ⟨_, rfl⟩
      · cases hb : firstBad p m ys 0 with
        | none => rw [hb] at e; cases e
        | some k => rw [hb] at e; cases e; exact .inr ⟨_, rfl⟩
theorem rdV_ok (s : Str) : sameOk 5 (rdV (rdF s)) = true ∧ nr (rdV (rdF s)) = true := by
  cases h : rdF s with
  | text n => exact ⟨rfl, rfl⟩
  | web v =>
    obtain ⟨p, m, ys, e⟩ := rdF_web h
    rcases badW_v e with ⟨z, rfl⟩ | ⟨z, rfl⟩ <;> exact ⟨rfl, rfl⟩
  | read p m ys =>
    obtain ⟨l, ls, _, _, _, _, _, e⟩ := rdF_read h
    obtain ⟨_, _, _, b4, b5⟩ := badW_none e
    have sp := sameOk_pcs 0 ys (by omega) fun y hy => Nat.le_trans (pieceB_len (b5 y hy)).1 (by decide)
    constructor
    · show ((true && (true && (true && (sameOk 4 (.tup (ys.map pcP)) && true)))) && true) = true
      rw [sp]
      rfl
    · simp [rdV, nr, nrs, nrs_pcs]
theorem noneP_isN {o : Option PV} (h : ∀ v, o = some v → isN v = false) : isN (noneP o) = o.isNone := by
  cases o with
  | none => rfl
  | some v => exact h v rfl
theorem fNotN_non (r : PV) (h : PH) : fNotN r .non h = some (.bl (!isN r), h) := by cases r <;> rfl
theorem due_eq {s : Str} (hl : s.length ≤ 1000000) (hn : (initL s).length ≤ 900000) (h : PH) (hh : h.all nrO = true) : m__law_due [.str s] h = .ok (rdV (rdF s)) h := by
  obtain ⟨init, last, e1, e2⟩ := lines_eq hl h
  have ei : initL s = init := by unfold initL; rw [e1, List.dropLast_concat]
  have el : lastL s = last := by unfold lastL; simp [e1]
  have hlen : ∀ l ∈ init, l.length ≤ 1000000 := fun l hm => Nat.le_trans (split_len s "\n" l (by rw [e1]; exact List.mem_append_left _ hm)) hl
  rw [ei] at hn
  have sp := fun h => split_nl hl h
  rw [e1] at sp
  have nv := (rdV_ok s).2
  have ln : ∀ h, fLen [.lst ((init ++ [last]).map PV.str)] h = some (.int (init.length + 1 : Nat), h) := fun h => by simp [fLen, asQ, asL]
  have il := fun h => ix_last (init.map PV.str) (.str last) h
  have il2 : ∀ h, fIx (.lst ((init ++ [last]).map PV.str)) (.int (-1)) h = some (.str last, h) := fun h => by rw [List.map_append, List.map_singleton]; exact il h
  have st1 : ∀ b, mSeq (mAsg (.nm 1) (mMt "str" (fSplit false) (mV 0) (mCons (mC (.str "\n")) mNil))) (mSeq (mAsg (.nm 2) (mLst true mNil)) b) [some (.str s), none, none, none, none, none] h = b [some (.str s), some (.lst ((init ++ [last]).map PV.str)), some (.ref h.length), none, none, none] (h ++ [.lst []]) := fun b => by
    generalize (init ++ [last]).map PV.str = allv at sp ⊢
    simp [mV, isT, isS, sp, sizeLine_eq]
  have rg := range1_ok init.length (by omega) (h ++ [.lst []])
  rw [List.range_eq_range'] at rg
  have it : mItA itRange1 (mCons (mBin fSubI (mCallB fLen (mCons (mV 1) mNil)) (mC (.int 1))) mNil) [some (.str s), some (.lst ((init ++ [last]).map PV.str)), some (.ref h.length), none, none, none] (h ++ [.lst []]) = .ok ⟨(List.range' 0 init.length).map fun k => .int (k : Nat), fun _ => true⟩ (h ++ [.lst []]) := by
    have sb : ((init.length + 1 : Nat) : Int) - 1 = (init.length : Int) := by omega
    have e : mCons (mBin fSubI (mCallB fLen (mCons (mV 1) mNil)) (mC (.int 1))) mNil [some (.str s), some (.lst ((init ++ [last]).map PV.str)), some (.ref h.length), none, none, none] (h ++ [.lst []]) = .ok [.int (init.length : Int)] (h ++ [.lst []]) := by
      simp only [ev_mCons, ev_mNil, ev_mBin, ev_mCallB, ev_mC, mV, List.getElem?_cons_succ, List.getElem?_cons_zero, ev_bind_ok, ln, ev_opt_some, fI, sb]
    have z := mItA_eq (f := itRange1) e
    rw [rg] at z
    exact z
  -- the text is not whole
  have notWhole : ∀ (a b : Option PV) (xs : List PV), (last ≠ "" ∨ xs = []) → ∀ rest, (mSeq (mIfS (tOr_ (tB_ (mBin fNe (mBin fIx (mV 1) (mUn fNeg (mC (.int 1)))) (mC (.str "")))) (tB_ (mBin fEq (mCallB fLen (mCons (mV 2) mNil)) (mC (.int 0))))) (mRet (mTup (mCons (mC (.str "text")) (mCons (mCallB fLen (mCons (mV 1) mNil)) mNil)))) mPass) rest) [some (.str s), some (.lst ((init ++ [last]).map PV.str)), some (.ref h.length), a, b, none] (h ++ [.lst xs]) =
      .rt (.tup [.str "text", .int (init.length + 1 : Nat)]) (h ++ [.lst xs]) := by
    intro a b xs hc rest
    refine seq_rt ?_
    have lf : fLen [.ref h.length] (h ++ [.lst xs]) = some (.int (xs.length : Int), h ++ [.lst xs]) := by simp [fLen, asQ, asL, app_get]
    generalize (init ++ [last]).map PV.str = allv at ln il2 ⊢
    by_cases hq : last = ""
    · have hx : xs = [] := by
        rcases hc with z | z
        · exact absurd hq z
        · exact z
      subst hq
      subst hx
      simp [mV, fNeg, il2, lf, ln, sizeLine_eq]
    · simp [mV, fNeg, il2, hq, ln, sizeLine_eq]
  have fin : ∀ (v : PV) (e : PH), v = rdV (rdF s) → outF true h.length v (h ++ e) = .ok (rdV (rdF s)) h := fun v e hv => by rw [hv]; exact outF_nr (frz := true) hh nv
  have hF : rdF s = rdF s := rfl
  conv at hF => rhs; unfold rdF
  rw [ei, el] at hF
  cases init with
  | nil =>
    dsimp only at hF
    refine def_rt rfl ?_ (fin (.tup [.str "text", .int 1]) [.lst []] (by rw [hF]; rfl))
    show b__law_due [some (.str s), none, none, none, none, none] h = _
    unfold b__law_due
    exact (st1 _).trans ((seq_nx (for_eq it (by simp [forL]))).trans (notWhole none none [] (.inr rfl) _))
  | cons l ls =>
    dsimp only at hF
    have all : l :: ls ++ [last] = [] ++ (l :: ls) ++ [last] := rfl
    have e0 := lline_head (hlen l List.mem_cons_self) (h ++ [.lst []])
    have s0 := due_step h (.str s) (l :: ls ++ [last]) 0 (.str l) (ix_strs [] ls l last _ all) _ [] (by decide) none e0
    have ra : List.range' 0 (l :: ls).length = 0 :: List.range' 1 ls.length := by
      rw [List.length_cons, List.range'_succ]
    rw [ra] at it
    cases hf : headF l with
    | none =>
      rw [hf] at s0 hF
      dsimp only at hF
      refine def_rt rfl ?_ (fin (.tup [.str "text", .int 1]) [.lst []] (by rw [hF]; rfl))
      show b__law_due [some (.str s), none, none, none, none, none] h = _
      unfold b__law_due
      refine (st1 _).trans (seq_rt (for_eq it ?_))
      simp only [List.map_cons, forL, asg, List.set_cons_succ, List.set_cons_zero, s0, hT, isN, if_true]
      rfl
    | some pm =>
      obtain ⟨p, m⟩ := pm
      rw [hf] at s0 hF
      dsimp only at hF
      have nh : isN (hT (some (p, m))) = false := rfl
      rw [nh, if_neg Bool.false_ne_true] at s0
      obtain ⟨a', b', acc', lp⟩ := due_loop h (.str s) (hT (some (p, m))) (l :: ls ++ [last]) last ls [l] [] (some (.int (0 : Nat))) (some (hT (some (p, m)))) (by simp) (by simp) (fun z hz => hlen z (List.mem_cons_of_mem _ hz)) (by simp at hn ⊢; omega)
      have whole : forL (fun _ => true) (.nm 3) dueB ((0 :: List.range' 1 ls.length).map fun k => .int (k : Nat)) [some (.str s), some (.lst ((l :: ls ++ [last]).map PV.str)), some (.ref h.length), none, none, none] (h ++ [.lst []]) =
          forL (fun _ => true) (.nm 3) dueB ((List.range' 1 ls.length).map fun k => .int (k : Nat)) [some (.str s), some (.lst ((l :: ls ++ [last]).map PV.str)), some (.ref h.length), some (.int (0 : Nat)), some (hT (some (p, m))), none] (h ++ [.lst [hT (some (p, m))]]) := by
        rw [List.map_cons]
        simp only [forL, asg, List.set_cons_succ, List.set_cons_zero, s0, if_true]
        rfl
      have lp2 := for_eq (t := .nm 3) (body := dueB) it (whole.trans lp)
      simp only [List.length_singleton, List.nil_append] at lp2
      cases hs : (scanP ls 1).1 with
      | some n =>
        rw [hs] at lp2 hF
        dsimp only at hF lp2
        refine def_rt rfl ?_ (fin (.tup [.str "text", .int n]) [.lst (hT (some (p, m)) :: acc'.map pcP)] (by rw [hF]; rfl))
        show b__law_due [some (.str s), none, none, none, none, none] h = _
        unfold b__law_due
        exact (st1 _).trans (seq_rt lp2)
      | none =>
        rw [hs] at lp2 hF
        dsimp only at hF lp2
        have okr := scanP_okR ls 1
        have yl := scanP_len ls 1
        generalize (scanP ls 1).2 = ys at lp2 hF okr yl
        have yl2 : ys.length ≤ 1000000 := by simp at hn; omega
        by_cases h1 : last = ""
        · rw [if_neg (fun q => q h1)] at hF
          have g : (h ++ [PO.lst (hT (some (p, m)) :: ys.map pcP)])[h.length]? = some (.lst (hT (some (p, m)) :: ys.map pcP)) := app_get _ _
          have sl : fSl false (.ref h.length) (some 1) none (h ++ [PO.lst (hT (some (p, m)) :: ys.map pcP)]) = some (.lst (ys.map pcP), h ++ [PO.lst (hT (some (p, m)) :: ys.map pcP)]) := by
            simp only [fSl, asL, g, cut_tail, ev_newL_f]
          have r0 : fIx (.ref h.length) (.int 0) (h ++ [PO.lst (hT (some (p, m)) :: ys.map pcP)]) = some (.tup [.int p, .int m], h ++ [PO.lst (hT (some (p, m)) :: ys.map pcP)]) := (ix_ref _ _ _ g _).trans (ix0 _ _ _)
          have t0 := fun h => tix0 (.int p) [.int m] h
          have t1 := fun h => tix1 (.int p) (.int m) [] h
          have lf : fLen [.ref h.length] (h ++ [PO.lst (hT (some (p, m)) :: ys.map pcP)]) = some (.int ((ys.length + 1 : Nat) : Int), h ++ [PO.lst (hT (some (p, m)) :: ys.map pcP)]) := by simp [fLen, asQ, asL, g]
          have bp := bad_part_eq p m ys (h ++ [PO.lst (hT (some (p, m)) :: ys.map pcP)]) okr yl2
          have tp : ∀ h : PH, fTuple [.lst (ys.map pcP)] h = some (.tup (ys.map pcP), h) := fun h => by simp [fTuple, asQ, asL]
          generalize hhe : h ++ [PO.lst (hT (some (p, m)) :: ys.map pcP)] = hh2 at sl r0 lf bp lp2
          have s2 : ∀ rest, (mSeq (mIfS (tOr_ (tB_ (mBin fNe (mBin fIx (mV 1) (mUn fNeg (mC (.int 1)))) (mC (.str "")))) (tB_ (mBin fEq (mCallB fLen (mCons (mV 2) mNil)) (mC (.int 0))))) (mRet (mTup (mCons (mC (.str "text")) (mCons (mCallB fLen (mCons (mV 1) mNil)) mNil)))) mPass) rest) [some (.str s), some (.lst ((l :: ls ++ [last]).map PV.str)), some (.ref h.length), a', b', none] hh2 = rest [some (.str s), some (.lst ((l :: ls ++ [last]).map PV.str)), some (.ref h.length), a', b', none] hh2 := fun rest => seq_nx (by
            generalize (l :: ls ++ [last]).map PV.str = allv at il2 ⊢
            have z0 : ¬ ((ys.length + 1 : Nat) : Int) = 0 := by omega
            simp [mV, fNeg, il2, h1, lf, z0]
            omega)
          have s3 : ∀ rest, mSeq (mAsg (.nm 5) (mCall m__law_bad_part (mCons (mBin fIx (mBin fIx (mV 2) (mC (.int 0))) (mC (.int 0))) (mCons (mBin fIx (mBin fIx (mV 2) (mC (.int 0))) (mC (.int 1))) (mCons (mSl (fSl false) (mV 2) (mPart (mC (.int 1))) mNoPart) mNil))))) rest [some (.str s), some (.lst ((l :: ls ++ [last]).map PV.str)), some (.ref h.length), a', b', none] hh2 = rest [some (.str s), some (.lst ((l :: ls ++ [last]).map PV.str)), some (.ref h.length), a', b', some (noneP (badW p m ys))] hh2 := fun rest => seq_nx (by
            generalize (l :: ls ++ [last]).map PV.str = allv
            simp [mV, r0, t0, t1, sl, bp])
          cases hb : badW p m ys with
          | some v =>
            rw [hb] at s3 hF
            have nv' : isN v = false := by rcases badW_v hb with ⟨z, rfl⟩ | ⟨z, rfl⟩ <;> rfl
            refine def_rt (v := .tup [.str "web", v]) (h1 := hh2) rfl ?_ (by rw [← hhe]; exact fin _ _ (by rw [hF]; rfl))
            show b__law_due [some (.str s), none, none, none, none, none] h = _
            unfold b__law_due
            refine (st1 _).trans ((seq_nx lp2).trans ((s2 _).trans ((s3 _).trans (seq_rt ?_))))
            generalize (l :: ls ++ [last]).map PV.str = allv
            simp [mV, noneP, fNotN_non, nv', sizeLine_eq]
          | none =>
            rw [hb] at s3 hF
            refine def_rt (v := .tup [.str "read", .int p, .int m, .tup (ys.map pcP)]) (h1 := hh2) rfl ?_ (by rw [← hhe]; exact fin _ _ (by rw [hF]; rfl))
            show b__law_due [some (.str s), none, none, none, none, none] h = _
            unfold b__law_due
            refine (st1 _).trans ((seq_nx lp2).trans ((s2 _).trans ((s3 _).trans ?_)))
            generalize (l :: ls ++ [last]).map PV.str = allv
            refine (seq_nx (ρ1 := [some (.str s), some (.lst allv), some (.ref h.length), a', b', some .non]) (h1 := hh2) (by simp [mV, noneP, fNotN_non, isN])).trans ?_
            simp [mV, r0, t0, t1, sl, tp, sizeLine_eq]
        · rw [if_pos h1] at hF
          refine def_rt rfl ?_ (fin (.tup [.str "text", .int ((ls.length + 2 : Nat) : Int)]) [.lst (hT (some (p, m)) :: ys.map pcP)] (by rw [hF]; rfl))
          show b__law_due [some (.str s), none, none, none, none, none] h = _
          unfold b__law_due
          exact (st1 _).trans ((seq_nx lp2).trans (notWhole a' b' _ (.inl h1) _))
theorem webA (p m : Int) (ys : List (List Int × Int)) : look fsW (webI p m ys) "prime" = some (.int p) ∧ look fsW (webI p m ys) "many" = some (.int m) ∧ look fsW (webI p m ys) "pieces" = some (.tup (ys.map pcP)) := by
  have d1 : ("many" == ("prime" : Str)) = false := by decide +kernel
  have d2 : ("pieces" == ("prime" : Str)) = false := by decide +kernel
  have d3 : ("pieces" == ("many" : Str)) = false := by decide +kernel
  simp [look, fsW, webI, List.lookup, d1, d2, d3]
theorem told_x (p : PV) (h h1 : PH) (o : RdO) (e : m_read_web [p] h = rdX o h) (hn : nr p = true) : m__law_told [p] h = .ok (rdV o) h := by
  refine def_rt (h1 := h) (v := rdV o) rfl ?_ (outF_same rfl)
  show b__law_told [some p, none, none, none] h = _
  unfold b__law_told
  have body : ∀ rest, mSeq (mTry (mSeq (mAsg (.nm 1) (mCall m_read_web (mCons (mV 0) mNil)))
  (mAsg (.nm 2) (mTup (mCons (mC (.str "read")) (mCons (mAttr "Web" "prime" (mV 1)) (mCons (mAttr "Web" "many" (mV 1)) (mCons (mAttr "Web" "pieces" (mV 1)) mNil))))))) zs__law_told) rest [some p, none, none, none] h = rest [some p, (match o with | .read p m ys => some (.ins "Web" fsW (webI p m ys)) | _ => none), some (rdV o), none] h := fun rest => by
    cases o with
    | text n =>
      have u : unif (fun a d => (z0__law_told.su "BadText" ["line"] a d (setRo [some p, none, none, none] (.err a "BadText" d ["line"] [.int n]) z0__law_told.nm) h).gone z0__law_told.nm) = .nx [some p, none, some (.tup [.str "text", .int n]), none] h := unif_eq fun a d => by
        simp [z0__law_told, setRo, mV, sizeLine_eq, mErrI, mErrF, look, SO.gone]
      have hd : hand "BadText" ["line"] [.int n] [some p, none, none, none] h zs__law_told = .nx [some p, none, some (.tup [.str "text", .int n]), none] h := by
        rw [← u]
        rfl
      refine seq_nx ?_
      unfold mTry
      rw [seq_ex (c := "BadText") (fs := ["line"]) (xs := [.int n]) (ρ1 := [some p, none, none, none]) (h1 := h) (by simp only [ev_mAsg, ev_mCall, ev_mCons, ev_mNil, mV, List.getElem?_cons_zero, ev_bind_ok, e, rdX, ev_st_ex])]
      exact hd
    | web v =>
      have u : unif (fun a d => (z1__law_told.su "BadWeb" ["part"] a d (setRo [some p, none, none, none] (.err a "BadWeb" d ["part"] [v]) z1__law_told.nm) h).gone z1__law_told.nm) = .nx [some p, none, some (.tup [.str "web", v]), none] h := unif_eq fun a d => by
        simp [z1__law_told, setRo, mV, sizeLine_eq, mErrI, mErrF, look, SO.gone]
      have hd : hand "BadWeb" ["part"] [v] [some p, none, none, none] h zs__law_told = .nx [some p, none, some (.tup [.str "web", v]), none] h := by
        rw [← u]
        rfl
      refine seq_nx ?_
      unfold mTry
      rw [seq_ex (c := "BadWeb") (fs := ["part"]) (xs := [v]) (ρ1 := [some p, none, none, none]) (h1 := h) (by simp only [ev_mAsg, ev_mCall, ev_mCons, ev_mNil, mV, List.getElem?_cons_zero, ev_bind_ok, e, rdX, ev_st_ex])]
      exact hd
    | read q m ys =>
      obtain ⟨w1, w2, w3⟩ := webA q m ys
      refine seq_nx ?_
      unfold mTry
      have a1 : ∀ f v, look fsW (webI q m ys) f = some v → ∀ h, mAttr "Web" f (mV 1) [some p, some (.ins "Web" fsW (webI q m ys)), none, none] h = .ok v h := fun f v hv h => by
        simp [mAttr, mV, fldsOf, hv]
      have z4 : (4 : Nat) ≤ sizeLine := by rw [sizeLine_eq]; decide
      rw [seq_nx (ρ1 := [some p, some (.ins "Web" fsW (webI q m ys)), none, none]) (h1 := h) (by simp only [ev_mAsg, ev_mCall, ev_mCons, ev_mNil, mV, List.getElem?_cons_zero, ev_bind_ok, e, rdX, ev_st_ok, ev_asg_nm, List.set_cons_succ, List.set_cons_zero])]
      simp only [ev_mAsg, ev_mTup, ev_mCons, ev_mNil, ev_mC, a1 _ _ w1, a1 _ _ w2, a1 _ _ w3, ev_bind_ok, List.length_cons, List.length_nil, Nat.zero_add, Nat.reduceAdd, z4, if_true, ev_st_ok, ev_asg_nm, List.set_cons_succ, List.set_cons_zero, rdV]
  refine (body _).trans ?_
  cases o <;> simp [mV]
end Ev
set_option maxHeartbeats 4000000
/-! Q11: the text of a web, and what is read of it. -/
namespace Ev
open PySem PySem.Spec PyProof.Rows L2
def okN (i : Int) : Bool := decide (0 ≤ i) && decide (i < 10 ^ 9)
theorem okN_of {i : Int} (h : okN i = true) : 0 ≤ i ∧ i < 10 ^ 9 := ⟨of_decide_eq_true (Bool.and_eq_true_iff.mp h).1, of_decide_eq_true (Bool.and_eq_true_iff.mp h).2⟩
theorem okN_mk {i : Int} (h0 : 0 ≤ i) (h1 : i < 10 ^ 9) : okN i = true := by unfold okN; rw [decide_eq_true h0, decide_eq_true h1]; rfl
def okY (y : List Int × Int) : Bool := decide (y.1 ≠ []) && (y.1.all okN && okN y.2)
theorem okY_of {y : List Int × Int} (h : okY y = true) : y.1 ≠ [] ∧ (∀ v ∈ y.1, okN v = true) ∧ okN y.2 = true := by
  unfold okY at h
  rw [Bool.and_eq_true_iff, Bool.and_eq_true_iff] at h
  exact ⟨of_decide_eq_true h.1, List.all_eq_true.mp h.2.1, h.2.2⟩
def joinC (vs : List Int) : Str := Txt.join "," (vs.map numS)
def lineH (p m : Int) : Str := Txt.join " " ["web", numS p, numS m]
def lineP (y : List Int × Int) : Str := Txt.join " " ["piece", numS y.2, joinC y.1]
def textL (ls : List Str) : Str := Txt.join "" (ls.map fun l => l ++ ("\n" : Str))
def textW (p m : Int) (ys : List (List Int × Int)) : Str := textL (lineH p m :: ys.map lineP)
theorem cm_tl : TL.tl ("," : Str) = [44] := by decide +kernel
theorem num_free2 (c : Nat) (hc : c = 32 ∨ c = 10 ∨ c = 44) (i : Int) (h : 0 ≤ i) : c ∉ TL.tl (numS i) := by
  obtain ⟨n, rfl⟩ := Int.eq_ofNat_of_zero_le h
  rw [numS_tl]
  rcases hc with rfl | rfl | rfl
  · exact TL.numL_free (by decide)
  · exact TL.numL_free (by decide)
  · exact TL.numL_free (by decide)
theorem free_join (c : Nat) (S : List Nat) (hS : c ∉ S) : ∀ ps : List (List Nat), (∀ p ∈ ps, c ∉ p) → c ∉ TL.joinL S ps
  | [], _ => by simp [TL.joinL]
  | [p], h => by
    simp only [TL.joinL]
    exact h p List.mem_cons_self
  | p :: q :: r, h => by
    have ih := free_join c S hS (q :: r) fun z hz => h z (List.mem_cons_of_mem _ hz)
    intro k
    simp only [TL.joinL] at k
    rcases List.mem_append.mp k with k | k
    · exact h p List.mem_cons_self k
    · rcases List.mem_append.mp k with k | k
      · exact hS k
      · exact ih k
theorem join_free (c : Nat) (y : Str) (hS : c ∉ TL.tl y) (ps : List Str) (h : ∀ p ∈ ps, c ∉ TL.tl p) : c ∉ TL.tl (Txt.join y ps) := by
  rw [TL.join_eq, TL.tl_join]
  exact free_join c _ hS _ fun p hp => by
    obtain ⟨q, hq, rfl⟩ := List.mem_map.mp hp
    exact h q hq
theorem joinC_free (c : Nat) (hc : c = 32 ∨ c = 10) {vs : List Int} (h : ∀ v ∈ vs, okN v = true) : c ∉ TL.tl (joinC vs) := by
  refine join_free c "," (by rw [cm_tl]; rcases hc with rfl | rfl <;> decide) _ fun p hp => ?_
  obtain ⟨v, hv, rfl⟩ := List.mem_map.mp hp
  exact num_free2 c (by omega) v (okN_of (h v hv)).1
theorem split_one {w a b : Str} (hw : (32 : Nat) ∉ TL.tl w) (ha : (32 : Nat) ∉ TL.tl a) (hb : (32 : Nat) ∉ TL.tl b) : Txt.split (Txt.join " " [w, a, b]) " " = [w, a, b] := by
  refine TL.split_join sp_tl (by decide +kernel) (by simp) fun p hp => ?_
  rcases List.mem_cons.mp hp with rfl | hp
  · exact hw
  · rcases List.mem_cons.mp hp with rfl | hp
    · exact ha
    · rw [List.mem_singleton.mp hp]
      exact hb
theorem numF_ok {i : Int} (h : okN i = true) : numF (numS i) = some i := by
  obtain ⟨h0, h1⟩ := okN_of h
  obtain ⟨n, hn⟩ := Int.eq_ofNat_of_zero_le h0
  have lt : n < 10 ^ 9 := by rw [hn] at h1; exact Int.ofNat_lt.mp h1
  rw [hn]
  exact numF_numS n lt
theorem optAll_ok : ∀ {vs : List Int}, (∀ v ∈ vs, okN v = true) → optAll ((vs.map numS).map numF) = some vs
  | [], _ => rfl
  | v :: vs, h => by
    have ih := optAll_ok fun z hz => h z (List.mem_cons_of_mem _ hz)
    rw [List.map_cons, List.map_cons, numF_ok (h v List.mem_cons_self), show optAll (some v :: (vs.map numS).map numF) = (optAll ((vs.map numS).map numF)).map (v :: ·) from rfl, ih]
    rfl
theorem numsF_ok {vs : List Int} (hne : vs ≠ []) (h : ∀ v ∈ vs, okN v = true) : numsF (joinC vs) = some vs := by
  unfold numsF joinC
  rw [TL.split_join cm_tl (by decide +kernel) (by simp [hne]) fun p hp => ?_]
  · exact optAll_ok h
  · obtain ⟨v, hv, rfl⟩ := List.mem_map.mp hp
    exact num_free2 44 (by omega) v (okN_of (h v hv)).1
theorem headF_ok {p m : Int} (hp : okN p = true) (hm : okN m = true) : headF (lineH p m) = some (p, m) := by
  unfold headF lineH
  rw [split_one (by decide +kernel) (num_free2 32 (by omega) p (okN_of hp).1) (num_free2 32 (by omega) m (okN_of hm).1)]
  simp [numF_ok hp, numF_ok hm]
theorem pieceF_ok {y : List Int × Int} (h : okY y = true) : pieceF (lineP y) = some y := by
  obtain ⟨h1, h2, h3⟩ := okY_of h
  unfold pieceF lineP
  rw [split_one (by decide +kernel) (num_free2 32 (by omega) y.2 (okN_of h3).1) (joinC_free 32 (by omega) h2)]
  simp [numF_ok h3, numsF_ok h1 h2]
theorem optAll_back : ∀ {ws : List Str} {vs : List Int}, optAll (ws.map numF) = some vs → vs.map numS = ws ∧ ∀ v ∈ vs, okN v = true
  | [], vs, h => by
    simp only [List.map_nil, optAll] at h
    cases h
    exact ⟨rfl, fun v hv => by cases hv⟩
  | w :: ws, vs, h => by
    simp only [List.map_cons] at h
    cases hw : numF w with
    | none => rw [hw] at h; simp [optAll] at h
    | some i =>
      rw [hw] at h
      cases hr : optAll (ws.map numF) with
      | none => rw [show optAll (some i :: ws.map numF) = (optAll (ws.map numF)).map (i :: ·) from rfl, hr] at h; cases h
      | some l =>
        rw [show optAll (some i :: ws.map numF) = (optAll (ws.map numF)).map (i :: ·) from rfl, hr] at h
        cases h
        have ih := optAll_back hr
        obtain ⟨b1, b2, b3⟩ := numF_back hw
        refine ⟨by rw [List.map_cons, b1, ih.1], fun v hv => ?_⟩
        rcases List.mem_cons.mp hv with rfl | hv
        · exact okN_mk b2 b3
        · exact ih.2 v hv
theorem headF_back {l : Str} {p m : Int} (h : headF l = some (p, m)) : l = lineH p m ∧ okN p = true ∧ okN m = true := by
  unfold headF at h
  split at h
  · rename_i w a b e
    split at h
    · rename_i hw
      cases ha : numF a with
      | none => rw [ha] at h; cases h
      | some i =>
        rw [ha] at h
        cases hb : numF b with
        | none => rw [hb] at h; cases h
        | some j =>
          rw [hb] at h
          cases h
          obtain ⟨a1, a2, a3⟩ := numF_back ha
          obtain ⟨b1, b2, b3⟩ := numF_back hb
          refine ⟨?_, okN_mk a2 a3, okN_mk b2 b3⟩
          have j := StrLaws.join_split l " "
          rw [e, hw] at j
          unfold lineH
          rw [TL.join_eq, a1, b1]
          exact j.symm
    · cases h
  · cases h
theorem pieceF_back {l : Str} {y : List Int × Int} (h : pieceF l = some y) : l = lineP y ∧ okY y = true := by
  unfold pieceF at h
  split at h
  · rename_i w a b e
    split at h
    · rename_i hw
      cases ha : numF a with
      | none => rw [ha] at h; cases h
      | some i =>
        rw [ha] at h
        cases hb : numsF b with
        | none => rw [hb] at h; cases h
        | some vs =>
          rw [hb] at h
          cases h
          obtain ⟨a1, a2, a3⟩ := numF_back ha
          obtain ⟨b1, b2⟩ := optAll_back hb
          have jb := StrLaws.join_split b ","
          have bj : joinC vs = b := by
            unfold joinC
            rw [b1, TL.join_eq]
            exact jb
          have hne : vs ≠ [] := fun q => by
            rw [q] at b1
            exact split_ne b "," b1.symm
          refine ⟨?_, ?_⟩
          · have j := StrLaws.join_split l " "
            rw [e, hw] at j
            unfold lineP
            rw [bj, TL.join_eq, a1]
            exact j.symm
          · unfold okY
            rw [decide_eq_true hne, List.all_eq_true.mpr b2, okN_mk a2 a3]
            rfl
    · cases h
  · cases h
theorem lineH_free {p m : Int} (hp : okN p = true) (hm : okN m = true) : (10 : Nat) ∉ TL.tl (lineH p m) := by
  refine join_free 10 " " (by decide +kernel) _ fun q hq => ?_
  rcases List.mem_cons.mp hq with rfl | hq
  · decide +kernel
  · rcases List.mem_cons.mp hq with rfl | hq
    · exact num_free2 10 (by omega) _ (okN_of hp).1
    · rw [List.mem_singleton.mp hq]
      exact num_free2 10 (by omega) _ (okN_of hm).1
theorem lineP_free {y : List Int × Int} (h : okY y = true) : (10 : Nat) ∉ TL.tl (lineP y) := by
  obtain ⟨h1, h2, h3⟩ := okY_of h
  refine join_free 10 " " (by decide +kernel) _ fun q hq => ?_
  rcases List.mem_cons.mp hq with rfl | hq
  · decide +kernel
  · rcases List.mem_cons.mp hq with rfl | hq
    · exact num_free2 10 (by omega) _ (okN_of h3).1
    · rw [List.mem_singleton.mp hq]
      exact joinC_free 10 (by omega) h2
theorem textL_join : ∀ ls : List Str, TL.tl (textL ls) = TL.tl (Str.join "\n" (ls ++ [("" : Str)]))
  | [] => rfl
  | l :: ls => by
    have ih := textL_join ls
    have e1 : ∀ (x : Str) (r : List Str), TL.tl (Txt.join "" (x :: r)) = TL.tl x ++ TL.tl (Txt.join "" r) := fun x r => by
      rw [TL.join_eq, TL.join_eq, TL.tl_join, TL.tl_join]
      cases r with
      | nil => simp [TL.joinL]
      | cons z r =>
        have z0 : TL.tl ("" : Str) = [] := by decide +kernel
        rw [z0]
        simp [TL.joinL]
    have e2 : ∃ z r, ls ++ [("" : Str)] = z :: r := by cases ls <;> simp
    obtain ⟨z, r, e2⟩ := e2
    unfold textL at ih ⊢
    rw [List.map_cons, e1, ih, List.cons_append, e2]
    have e3 : Str.join "\n" (l :: z :: r) = l ++ "\n" ++ Str.join "\n" (z :: r) := rfl
    rw [e3, TL.tl_append, TL.tl_append, TL.tl_append]
theorem textL_eq (ls : List Str) : textL ls = Txt.join "\n" (ls ++ [("" : Str)]) := by
  rw [TL.join_eq]
  exact TL.ext_tl (textL_join ls)
theorem textL_split {ls : List Str} (ok : ∀ l ∈ ls, (10 : Nat) ∉ TL.tl l) : Txt.split (textL ls) "\n" = ls ++ [("" : Str)] := by
  rw [textL_eq]
  refine TL.split_join nl_tl (by decide +kernel) (by simp) fun p hp => ?_
  rcases List.mem_append.mp hp with hp | hp
  · exact ok p hp
  · rw [List.mem_singleton.mp hp]
    decide +kernel
theorem textL_parts {ls : List Str} (ok : ∀ l ∈ ls, (10 : Nat) ∉ TL.tl l) : initL (textL ls) = ls ∧ lastL (textL ls) = "" := by
  have e := textL_split ok
  constructor
  · unfold initL
    rw [e, List.dropLast_concat]
  · unfold lastL
    simp [e]
theorem textL_back {s : Str} (hl : lastL s = "") : textL (initL s) = s := by
  rw [textL_eq]
  have e : initL s ++ [lastL s] = Txt.split s "\n" := List.dropLast_concat_getLast (split_ne _ _)
  rw [hl] at e
  rw [e, TL.join_eq]
  exact StrLaws.join_split s "\n"
theorem scan_lines : ∀ (ys : List (List Int × Int)) (k : Nat), ys.all okY = true → scanP (ys.map lineP) k = (none, ys)
  | [], _, _ => rfl
  | y :: ys, k, h => by
    have h' := Bool.and_eq_true_iff.mp h
    have ih := scan_lines ys (k + 1) h'.2
    rw [List.map_cons]
    simp only [scanP, pieceF_ok h'.1, ih]
theorem scan_back : ∀ (ls : List Str) (k : Nat), (scanP ls k).1 = none → ls = (scanP ls k).2.map lineP ∧ (scanP ls k).2.all okY = true
  | [], _, _ => ⟨rfl, rfl⟩
  | l :: ls, k, h => by
    cases hf : pieceF l with
    | none => simp [scanP, hf] at h
    | some y =>
      simp only [scanP, hf] at h ⊢
      have ih := scan_back ls (k + 1) h
      have b := pieceF_back hf
      refine ⟨by rw [List.map_cons, ← b.1, ← ih.1], ?_⟩
      rw [List.all_cons, ih.2, b.2]
      rfl
theorem lines_free {p m : Int} {ys : List (List Int × Int)} (hp : okN p = true) (hm : okN m = true) (ok : ys.all okY = true) : ∀ l ∈ lineH p m :: ys.map lineP, (10 : Nat) ∉ TL.tl l := fun l hl => by
  rcases List.mem_cons.mp hl with rfl | hl
  · exact lineH_free hp hm
  · obtain ⟨y, hy, rfl⟩ := List.mem_map.mp hl
    exact lineP_free (List.all_eq_true.mp ok y hy)
/-- what is read of a text of a web -/
theorem rdF_text {p m : Int} {ys : List (List Int × Int)} (hp : okN p = true) (hm : okN m = true) (ok : ys.all okY = true) : rdF (textW p m ys) = (match badW p m ys with
    | some v => .web v
    | none => .read p m ys) := by
  obtain ⟨e1, e2⟩ := textL_parts (lines_free hp hm ok)
  unfold rdF textW
  rw [e1, e2]
  dsimp only
  rw [headF_ok hp hm]
  dsimp only
  rw [scan_lines ys 1 ok]
  simp only [ne_eq, not_true_eq_false, if_false]
  all_goals (cases badW p m ys <;> rfl)
/-- a text that is read as a web is that web's text -/
theorem rdF_back {s : Str} {p m : Int} {ys : List (List Int × Int)} (h : rdF s = .read p m ys) : textW p m ys = s ∧ okN p = true ∧ okN m = true ∧ ys.all okY = true := by
  obtain ⟨l, ls, e1, e2, e3, e4, e5, _⟩ := rdF_read h
  obtain ⟨b1, b2, b3⟩ := headF_back e2
  obtain ⟨c1, c2⟩ := scan_back ls 1 e3
  subst e5
  refine ⟨?_, b2, b3, c2⟩
  unfold textW
  rw [← c1, ← b1, ← e1]
  exact textL_back e4
end Ev
set_option maxHeartbeats 4000000
/-! Q12: the walks of both texts. -/
namespace Ev
open PySem PySem.Spec PyProof.Rows L2
theorem fAddS_ok {x y : Str} {h : PH} (hl : x.length + y.length ≤ 3000000) : fAdd false (.str x) (.str y) h = some (.str (x ++ y), h) := addS_ok x y hl h
theorem fStr_ok {i : Int} (h : okN i = true) (h' : PH) : fStr [.int i] h' = some (.str (numS i), h') := by
  obtain ⟨h0, h1⟩ := okN_of h
  have := log_ok h0 (by omega)
  simp only [fStr, this, if_true]
  rfl
theorem numS_len {i : Int} (h : okN i = true) : (numS i).length ≤ 10 := by
  obtain ⟨h0, h1⟩ := okN_of h
  exact num_len h0 (by omega)
theorem join2_len (y : Str) (hy : y.length ≤ 1) (n : Nat) : ∀ ps : List Str, (∀ p ∈ ps, p.length ≤ n) → (Txt.join y ps).length ≤ (n + 1) * ps.length
  | [], _ => Nat.zero_le _
  | [p], h => by
    have e : Txt.join y [p] = p := by rw [TL.join_eq]; rfl
    rw [e]
    have := h p List.mem_cons_self
    simp
    omega
  | p :: q :: r, h => by
    have ih := join2_len y hy n (q :: r) fun z hz => h z (List.mem_cons_of_mem _ hz)
    have e : Txt.join y (p :: q :: r) = p ++ y ++ Txt.join y (q :: r) := by rw [TL.join_eq, TL.join_eq]; rfl
    rw [e, len_add, len_add, List.length_cons, Nat.mul_add]
    have := h p List.mem_cons_self
    omega
theorem joinC_len {vs : List Int} (h : ∀ v ∈ vs, okN v = true) : (joinC vs).length ≤ 11 * vs.length := by
  have := join2_len "," (Nat.le_refl _) 10 (vs.map numS) fun p hp => by
    obtain ⟨v, hv, rfl⟩ := List.mem_map.mp hp
    exact numS_len (h v hv)
  rw [List.length_map] at this
  exact this
theorem three_eq (a b c : Str) : Txt.join " " [a, b, c] = a ++ (" " : Str) ++ b ++ (" " : Str) ++ c := by
  rw [TL.join_eq]
  have e : Str.join " " [a, b, c] = a ++ " " ++ (b ++ " " ++ c) := rfl
  rw [e]
  exact TL.ext_tl (by simp only [TL.tl_append, List.append_assoc])
theorem lineP_eq (y : List Int × Int) : lineP y = ("piece " : Str) ++ numS y.2 ++ (" " : Str) ++ joinC y.1 := by
  unfold lineP
  rw [three_eq]
  rfl
theorem lineH_eq (p m : Int) : lineH p m = ("web " : Str) ++ numS p ++ (" " : Str) ++ numS m := by
  unfold lineH
  rw [three_eq]
  rfl
theorem piece_len : ("piece " : Str).length = 6 := rfl
theorem web_len : ("web " : Str).length = 4 := rfl
theorem sp_len : (" " : Str).length = 1 := rfl
theorem lineP_len {y : List Int × Int} (ok : okY y = true) (hl : y.1.length ≤ 20) : (lineP y).length ≤ 300 := by
  obtain ⟨_, h2, h3⟩ := okY_of ok
  have a := joinC_len h2
  have b := numS_len h3
  rw [lineP_eq, len_add, len_add, len_add, piece_len, sp_len]
  omega
theorem lineH_len {p m : Int} (hp : okN p = true) (hm : okN m = true) : (lineH p m).length ≤ 30 := by
  have a := numS_len hp
  have b := numS_len hm
  rw [lineH_eq, len_add, len_add, len_add, web_len, sp_len]
  omega
def okZ (y : List Int × Int) : Bool := okY y && decide (y.1.length ≤ 20)
theorem okZ_of {y : List Int × Int} (h : okZ y = true) : okY y = true ∧ y.1.length ≤ 20 := ⟨(Bool.and_eq_true_iff.mp h).1, of_decide_eq_true (Bool.and_eq_true_iff.mp h).2⟩
theorem okZ_Y {ys : List (List Int × Int)} (h : ys.all okZ = true) : ys.all okY = true := all_imp (fun _ k => (okZ_of k).1) h
theorem text_len {p m : Int} {ys : List (List Int × Int)} (hp : okN p = true) (hm : okN m = true) (ok : ys.all okZ = true) (hl : ys.length ≤ 50) : (textW p m ys).length ≤ 20000 := by
  have := join2_len "" (Nat.zero_le _) 301 ((lineH p m :: ys.map lineP).map fun l => l ++ ("\n" : Str)) fun q hq => by
    obtain ⟨l, hl, rfl⟩ := List.mem_map.mp hq
    rw [len_add, nl_len]
    rcases List.mem_cons.mp hl with rfl | hl
    · have := lineH_len hp hm
      omega
    · obtain ⟨y, hy, rfl⟩ := List.mem_map.mp hl
      obtain ⟨o1, o2⟩ := okZ_of (List.all_eq_true.mp ok y hy)
      have := lineP_len o1 o2
      omega
  rw [List.length_map, List.length_cons, List.length_map] at this
  unfold textW textL
  omega
noncomputable abbrev lineE : EM := mBin (fAdd false) (mBin (fAdd false) (mBin (fAdd false) (mC (.str "piece ")) (mCallB fStr (mCons (mV 3) mNil))) (mC (.str " "))) (mMt "str" fJoin (mC (.str ",")) (mCons (mLc false [5] (mIt (mV 2)) (.nm 5) tYes_ (mCallB fStr (mCons (mV 5) mNil))) mNil))
theorem lineE_eq {y : List Int × Int} (ok : okZ y = true) (x0 x1 : PV) (d : Option PV) (h : PH) : lineE [some x0, some x1, some (.tup (y.1.map PV.int)), some (.int y.2), d, none] h = .ok (.str (lineP y)) h := by
  obtain ⟨o, ol⟩ := okZ_of ok
  obtain ⟨h1, h2, h3⟩ := okY_of o
  have lc := mLc_pure (b := false) (own := [5]) (mi := mIt (mV 2)) (t := .nm 5) (me := mCallB fStr (mCons (mV 5) mNil)) (ρ := [some x0, some x1, some (.tup (y.1.map PV.int)), some (.int y.2), d, none]) (h := h) (s := ⟨y.1.map PV.int, fun _ => true⟩)
    PV.int (fun v => .str (numS v)) y.1 rfl rfl rfl (fun v hv => ⟨[some x0, some x1, some (.tup (y.1.map PV.int)), some (.int y.2), d, some (.int v)], rfl, by
      have e := fStr_ok (h2 v hv) h
      simp [mV, e]⟩) (by rw [sizeLine_eq]; omega)
  have e1 : (y.1.map fun v => PV.str (numS v)) = (y.1.map numS).map PV.str := by rw [List.map_map]; rfl
  have e2 : ((y.1.map numS).map (·.length)).sum + (y.1.map numS).length * ("," : Str).length ≤ 16777216 := by
    have := sum_le (fun y : Str => y.length) 10 (y.1.map numS) (fun x hx => by obtain ⟨v, hv, rfl⟩ := List.mem_map.mp hx; exact numS_len (h2 v hv))
    have z : ("," : Str).length = 1 := rfl
    rw [z, Nat.mul_one]
    rw [List.length_map] at this ⊢
    omega
  have fj : fJoin (.str ",") [.lst ((y.1.map numS).map PV.str)] h = some (.str (joinC y.1), h) := by
    simp only [fJoin, asQ, asL, Option.bind, asSs_map, e2, if_true]
    rfl
  have fs := fStr_ok h3 h
  have n1 := numS_len h3
  have n2 := joinC_len h2
  have A1 := addS_ok "piece " (numS y.2) (by rw [piece_len]; omega) h
  have A2 := addS_ok (("piece " : Str) ++ numS y.2) " " (by rw [len_add, piece_len, sp_len]; omega) h
  have A3 := addS_ok (("piece " : Str) ++ numS y.2 ++ (" " : Str)) (joinC y.1) (by rw [len_add, len_add, piece_len, sp_len]; omega) h
  rw [lineP_eq]
  simp only [ev_mBin, ev_mC, ev_mCallB, ev_mCons, ev_mNil, mV, List.getElem?_cons_succ, List.getElem?_cons_zero, ev_bind_ok, fs, ev_opt_some, A1, A2, ev_mMt, isT, isS, decide_true, Bool.and_self, Bool.true_or, if_true, lc, ev_newL_f, e1, fj, A3]
noncomputable abbrev lineB : SM := mExpr (mMt "list" fAppend (mV 1) (mCons lineE mNil))
theorem text_loop (h : PH) (x0 : PV) : ∀ (ys : List (List Int × Int)) (acc : List Str) (a b : Option PV), ys.all okZ = true → acc.length + ys.length ≤ 1000000 →
    ∃ (a' b' : Option PV), forL (fun _ => true) (.tp [.nm 2, .nm 3]) lineB (ys.map pcP) [some x0, some (.ref h.length), a, b, none, none] (h ++ [.lst (acc.map PV.str)]) =
      .nx [some x0, some (.ref h.length), a', b', none, none] (h ++ [.lst ((acc ++ ys.map lineP).map PV.str)])
  | [], acc, a, b, _, _ => ⟨a, b, by simp [forL]⟩
  | y :: ys, acc, a, b, ok, hn => by
    have ok' := Bool.and_eq_true_iff.mp ok
    have hz : acc.length < 16777216 := by simp at hn; omega
    have le := lineE_eq ok'.1 x0 (.ref h.length) none (h ++ [.lst (acc.map PV.str)])
    obtain ⟨a', b', ih⟩ := text_loop h x0 ys (acc ++ [lineP y]) (some (.tup (y.1.map PV.int))) (some (.int y.2)) ok'.2 (by simp at hn ⊢; omega)
    refine ⟨a', b', ?_⟩
    have am : acc.map PV.str ++ [.str (lineP y)] = (acc ++ [lineP y]).map PV.str := by simp
    have as : (acc ++ [lineP y]) ++ ys.map lineP = acc ++ (y :: ys).map lineP := by simp
    rw [as] at ih
    rw [← ih]
    have ag : asg (.tp [.nm 2, .nm 3]) (pcP y) [some x0, some (.ref h.length), a, b, none, none] = some [some x0, some (.ref h.length), some (.tup (y.1.map PV.int)), some (.int y.2), none, none] := by simp [pcP, asg, asgs, asT]
    have ap : fAppend (.ref h.length) [.str (lineP y)] (h ++ [.lst (acc.map PV.str)]) = some (.non, h ++ [.lst ((acc ++ [lineP y]).map PV.str)]) := by
      rw [← am]
      simp [fAppend, app_get, sizeLine_eq, hz, app_set]
    have step : lineB [some x0, some (.ref h.length), some (.tup (y.1.map PV.int)), some (.int y.2), none, none] (h ++ [.lst (acc.map PV.str)]) = .nx [some x0, some (.ref h.length), some (.tup (y.1.map PV.int)), some (.int y.2), none, none] (h ++ [.lst ((acc ++ [lineP y]).map PV.str)]) := by
      unfold lineB
      generalize lineE = E at le ⊢
      simp [mV, isT, asL, app_get, le, ap]
    rw [List.map_cons]
    simp only [forL, ag, step, if_true]
theorem end_eq {h : PH} (x0 : PV) (a b : Option PV) (ls : List Str) (hl : ls.length ≤ 60) (hw : ∀ l ∈ ls, l.length ≤ 300) :
    (mRet (mMt "str" fJoin (mC (.str "")) (mCons (mLc false [4] (mIt (mV 1)) (.nm 4) tYes_ (mBin (fAdd false) (mV 4) (mC (.str "\n")))) mNil))) [some x0, some (.ref h.length), a, b, none, none] (h ++ [.lst (ls.map PV.str)]) = .rt (.str (textL ls)) (h ++ [.lst (ls.map PV.str)]) := by
  have g : (h ++ [PO.lst (ls.map PV.str)])[h.length]? = some (.lst (ls.map PV.str)) := app_get _ _
  generalize h ++ [PO.lst (ls.map PV.str)] = hh at g ⊢
  have lc := mLc_pure (b := false) (own := [4]) (mi := mIt (mV 1)) (t := .nm 4) (me := mBin (fAdd false) (mV 4) (mC (.str "\n"))) (ρ := [some x0, some (.ref h.length), a, b, none, none]) (h := hh) (s := ⟨ls.map PV.str, chkRef h.length (ls.map PV.str)⟩)
    PV.str (fun l => .str (l ++ ("\n" : Str))) ls (by simp [mIt, mV, itSeq, itRef, g]) rfl (by simp [chkRef, g]) (fun l hl' => ⟨[some x0, some (.ref h.length), a, b, some (.str l), none], rfl, by
      have e := addS_ok l "\n" (by have := hw l hl'; rw [nl_len]; omega) hh
      simp [mV, e]⟩) (by rw [sizeLine_eq]; omega)
  have e1 : (ls.map fun l => PV.str (l ++ ("\n" : Str))) = (ls.map fun l => l ++ ("\n" : Str)).map PV.str := by rw [List.map_map]; rfl
  have e2 : ((ls.map fun l => l ++ ("\n" : Str)).map (·.length)).sum + (ls.map fun l => l ++ ("\n" : Str)).length * ("" : Str).length ≤ 16777216 := by
    have := sum_le (fun y : Str => y.length) 301 (ls.map fun l => l ++ ("\n" : Str)) (fun x hx => by
      obtain ⟨l, hl, rfl⟩ := List.mem_map.mp hx
      rw [len_add, nl_len]
      have := hw l hl
      omega)
    have z : ("" : Str).length = 0 := rfl
    rw [z, Nat.mul_zero, Nat.add_zero]
    rw [List.length_map] at this
    exact Nat.le_trans this (by omega)
  simp only [ev_mRet, ev_mMt, ev_mC, ev_bind_ok, isT, isS, decide_true, Bool.and_self, Bool.true_or, if_true, ev_mCons, ev_mNil, lc, e1, ev_newL_f, fJoin, asQ, asL, Option.bind, asSs_map, e2, ev_opt_some, ev_st_ok]
  rfl
theorem lines_len {p m : Int} {ys : List (List Int × Int)} (hp : okN p = true) (hm : okN m = true) (ok : ys.all okZ = true) : ∀ l ∈ lineH p m :: ys.map lineP, l.length ≤ 300 := fun l hl => by
  rcases List.mem_cons.mp hl with rfl | hl
  · exact Nat.le_trans (lineH_len hp hm) (by decide)
  · obtain ⟨y, hy, rfl⟩ := List.mem_map.mp hl
    obtain ⟨o1, o2⟩ := okZ_of (List.all_eq_true.mp ok y hy)
    exact lineP_len o1 o2
theorem ltext_eq {p m : Int} {ys : List (List Int × Int)} (hp : okN p = true) (hm : okN m = true) (ok : ys.all okZ = true) (hl : ys.length ≤ 50) (h : PH) (hh : h.all nrO = true) :
    m__law_text [.tup [.int p, .int m, .tup (ys.map pcP)]] h = .ok (.str (textW p m ys)) h := by
  obtain ⟨a', b', lp⟩ := text_loop h (.tup [.int p, .int m, .tup (ys.map pcP)]) ys [lineH p m] none none ok (by simp; omega)
  have ee := end_eq (h := h) (.tup [.int p, .int m, .tup (ys.map pcP)]) a' b' (lineH p m :: ys.map lineP) (by simp; omega) (lines_len hp hm ok)
  refine def_rt (v := .str (textW p m ys)) (h1 := h ++ [.lst ((lineH p m :: ys.map lineP).map PV.str)]) rfl ?_ (outF_nr (frz := true) hh rfl)
  show b__law_text [some (.tup [.int p, .int m, .tup (ys.map pcP)]), none, none, none, none, none] h = _
  unfold b__law_text
  have i0 := tix0 (.int p) [.int m, .tup (ys.map pcP)] h
  have i1 := tix1 (.int p) (.int m) [.tup (ys.map pcP)] h
  have i2 : ∀ h, fIx (.tup [.int p, .int m, .tup (ys.map pcP)]) (.int 2) h = some (.tup (ys.map pcP), h) := fun h => ix_tup [.int p, .int m, .tup (ys.map pcP)] 2 (by simp) h
  have fj : fJoin (.str " ") [.lst [.str "web", .str (numS p), .str (numS m)]] h = some (.str (lineH p m), h) := by
    have e : [PV.str "web", .str (numS p), .str (numS m)] = ([("web" : Str), numS p, numS m] : List Str).map PV.str := rfl
    have a := numS_len hp
    have b := numS_len hm
    have w : ("web" : Str).length = 3 := rfl
    have e2 : (([("web" : Str), numS p, numS m] : List Str).map (·.length)).sum + ([("web" : Str), numS p, numS m] : List Str).length * (" " : Str).length ≤ 16777216 := by
      simp only [List.map_cons, List.map_nil, List.sum_cons, List.sum_nil, List.length_cons, List.length_nil, w, sp_len]
      omega
    rw [e]
    simp only [fJoin, asQ, asL, Option.bind, asSs_map, e2, if_true]
    rfl
  have fs1 := fStr_ok hp h
  have fs2 := fStr_ok hm h
  have s1 : (1 : Nat) ≤ sizeLine := by rw [sizeLine_eq]; decide
  have s3 : (3 : Nat) ≤ sizeLine := by rw [sizeLine_eq]; decide
  refine (seq_nx (ρ1 := [some (.tup [.int p, .int m, .tup (ys.map pcP)]), some (.ref h.length), none, none, none, none]) (h1 := h ++ [.lst ([lineH p m].map PV.str)]) ?_).trans ?_
  · simp [mV, i0, i1, fs1, fs2, isT, isS, fj, sizeLine_eq]
  have it : mIt (mBin fIx (mV 0) (mC (.int 2))) [some (.tup [.int p, .int m, .tup (ys.map pcP)]), some (.ref h.length), none, none, none, none] (h ++ [.lst ([lineH p m].map PV.str)]) = .ok ⟨ys.map pcP, fun _ => true⟩ (h ++ [.lst ([lineH p m].map PV.str)]) := by
    simp only [mIt, ev_mBin, ev_mC, mV, List.getElem?_cons_zero, ev_bind_ok, i2, ev_opt_some, itSeq]
  exact (seq_nx (for_eq it lp)).trans ee
theorem ptext_eq {p m : Int} {ys : List (List Int × Int)} {w : PV} (hp : okN p = true) (hm : okN m = true) (ok : ys.all okZ = true) (hl : ys.length ≤ 50) (h : PH) (hh : h.all nrO = true) (hf : ∀ e : PH, fldsOf (h ++ e) w = some (("Web" : Str), fsW, webI p m ys)) :
    m_web_text [w] h = .ok (.str (textW p m ys)) h := by
  obtain ⟨a', b', lp⟩ := text_loop h w ys [lineH p m] none none ok (by simp; omega)
  have ee := end_eq (h := h) w a' b' (lineH p m :: ys.map lineP) (by simp; omega) (lines_len hp hm ok)
  refine def_rt (v := .str (textW p m ys)) (h1 := h ++ [.lst ((lineH p m :: ys.map lineP).map PV.str)]) rfl ?_ (outF_nr (frz := true) hh rfl)
  show b_web_text [some w, none, none, none, none, none] h = _
  unfold b_web_text
  obtain ⟨w1, w2, w3⟩ := webA p m ys
  have at_ : ∀ (f : Str) (v : PV) (e : PH) (ρ : Ro), look fsW (webI p m ys) f = some v → ρ[0]? = some (some w) → mAttr "Web" f (mV 0) ρ (h ++ e) = .ok v (h ++ e) := fun f v e ρ hv hρ => by
    simp [mAttr, mV, hρ, hf, hv]
  have b1 := at_ _ _ [] [some w, none, none, none, none, none] w1 rfl
  have b2 := at_ _ _ [] [some w, none, none, none, none, none] w2 rfl
  rw [List.append_nil] at b1 b2
  have fs1 := fStr_ok hp h
  have fs2 := fStr_ok hm h
  have n1 := numS_len hp
  have n2 := numS_len hm
  have A1 := addS_ok "web " (numS p) (by rw [web_len]; omega) h
  have A2 := addS_ok (("web " : Str) ++ numS p) " " (by rw [len_add, web_len, sp_len]; omega) h
  have A3 := addS_ok (("web " : Str) ++ numS p ++ (" " : Str)) (numS m) (by rw [len_add, len_add, web_len, sp_len]; omega) h
  have s1 : (1 : Nat) ≤ sizeLine := by rw [sizeLine_eq]; decide
  refine (seq_nx (ρ1 := [some w, some (.ref h.length), none, none, none, none]) (h1 := h ++ [.lst ([lineH p m].map PV.str)]) ?_).trans ?_
  · rw [lineH_eq]
    simp only [ev_mAsg, ev_mLst, ev_mCons, ev_mNil, ev_mBin, ev_mC, ev_mCallB, b1, b2, ev_bind_ok, fs1, fs2, ev_opt_some, A1, A2, A3, List.length_cons, List.length_nil, Nat.zero_add, s1, if_true, newL, ev_st_ok, ev_asg_nm, List.set_cons_succ, List.set_cons_zero, List.map_cons, List.map_nil]
  have it : mIt (mAttr "Web" "pieces" (mV 0)) [some w, some (.ref h.length), none, none, none, none] (h ++ [.lst ([lineH p m].map PV.str)]) = .ok ⟨ys.map pcP, fun _ => true⟩ (h ++ [.lst ([lineH p m].map PV.str)]) := by
    simp only [mIt, at_ _ _ [.lst ([lineH p m].map PV.str)] [some w, some (.ref h.length), none, none, none, none] w3 rfl, ev_bind_ok, itSeq]
  exact (seq_nx (for_eq it lp)).trans ee
end Ev
set_option maxHeartbeats 4000000
/-! Q13: a web drawn. -/
namespace Ev
open PySem PySem.Spec PyProof.Rows L2
section
variable {cs : List Int} {a b t : Int} {e : PH}
theorem compL_draw (hcs : cs.length ≤ 1000) (p : Int) (hp : 0 < p) (hp2 : p < 1073741824) (r1 r3 r4 r5 r6 r7 : Option PV) : ∀ (L : List PV) (acc : List Int) (a b t : Int), 0 ≤ a → 0 ≤ b → acc.length + L.length ≤ 1000000 →
    ∃ (vs : List Int) (a' b' t' : Int), compL (fun _ => true) (.nm 7) tYes_ (mCall m__law_draw (mCons (mV 0) (mCons (mV 2) mNil))) [some (.ref 0), r1, some (.int p), r3, r4, r5, r6, r7] L (acc.map PV.int) (bagH cs a b t e) = .ok ((acc ++ vs).map PV.int) (bagH cs a' b' t' e) ∧
      0 ≤ a' ∧ 0 ≤ b' ∧ vs.length = L.length ∧ ∀ v ∈ vs, 0 ≤ v ∧ v < p
  | [], acc, a, b, t, ha, hb, _ => ⟨[], a, b, t, by simp [compL], ha, hb, rfl, fun v hv => by cases hv⟩
  | x :: L, acc, a, b, t, ha, hb, hl => by
    obtain ⟨v, a1, b1, t1, e1, x1, x2, x3, x4⟩ := draw_eq (cs := cs) (a := a) (b := b) (t := t) (many := p) (e := e) ha hb hp hp2 hcs
    obtain ⟨vs, a', b', t', ih, y1, y2, y3, y4⟩ := compL_draw hcs p hp hp2 r1 r3 r4 r5 r6 r7 L (acc ++ [v]) a1 b1 t1 x3 x4 (by simp at hl ⊢; omega)
    refine ⟨v :: vs, a', b', t', ?_, y1, y2, by simp [y3], fun z hz => ?_⟩
    · have am : acc.map PV.int ++ [.int v] = (acc ++ [v]).map PV.int := by simp
      have as : (acc ++ [v]) ++ vs = acc ++ v :: vs := by simp
      have hz : (acc.map PV.int).length < sizeLine := by rw [List.length_map, sizeLine_eq]; simp at hl; omega
      rw [as] at ih
      rw [← ih, ← am]
      have me : (mCall m__law_draw (mCons (mV 0) (mCons (mV 2) mNil))) [some (.ref 0), r1, some (.int p), r3, r4, r5, r6, some x] (bagH cs a b t e) = .ok (.int v) (bagH cs a1 b1 t1 e) := by
        simp only [ev_mCall, ev_mCons, ev_mNil, mV, List.getElem?_cons_succ, List.getElem?_cons_zero, ev_bind_ok, e1]
      simp only [compL, asg, List.set_cons_succ, List.set_cons_zero, tYes_, noEx, Out.bind, if_true, me, hz]
    · rcases List.mem_cons.mp hz with rfl | hz
      · exact ⟨x1, x2⟩
      · exact y4 z hz
theorem set_mem {vs : List Int} {i : Nat} {x v : Int} (h : v ∈ vs.set i x) : v ∈ vs ∨ v = x := List.mem_or_eq_of_mem_set h
theorem pieceB_mk {p m : Int} {vs : List Int} {z : Int} (hm1 : 1 ≤ m) (hm2 : m ≤ 10) (hl : (vs.length : Int) = m) (hv : ∀ v ∈ vs, 0 ≤ v ∧ v < p) (hn : ∃ v ∈ vs, v ≠ 0) (hz1 : 1 ≤ z) (hz2 : z ≤ 1000000) : pieceB p m (vs, z) = true := by
  unfold pieceB sumB
  rw [inIv_int]
  have A : (vs.all fun v => inIv (.int v) 0 (p - 1)) = true := List.all_eq_true.mpr fun v h => by
    rw [inIv_int, decide_eq_true (hv v h).1, decide_eq_true (show v ≤ p - 1 by have := (hv v h).2; omega)]
    rfl
  have B : (vs.any fun v => decide (v ≠ 0)) = true := by
    obtain ⟨v, h1, h2⟩ := hn
    exact List.any_eq_true.mpr ⟨v, h1, decide_eq_true h2⟩
  simp only [A, B]
  rw [decide_eq_true (show 1 ≤ vs.length by omega), decide_eq_true (show vs.length ≤ 10 by omega), decide_eq_true hl, decide_eq_true hz1, decide_eq_true hz2]
  rfl
noncomputable abbrev drawnB : SM := mSeq (mAsg (.nm 6) (mLc true [7] (mItA itRange1 (mCons (mV 3) mNil)) (.nm 7) tYes_ (mCall m__law_draw (mCons (mV 0) (mCons (mV 2) mNil)))))
  (mSeq (mSetI (mV 6) (mCall m__law_draw (mCons (mV 0) (mCons (mV 3) mNil))) (mBin (fAdd false) (mC (.int 1)) (mCall m__law_draw (mCons (mV 0) (mCons (mBin fSubI (mV 2) (mC (.int 1))) mNil)))))
  (mExpr (mMt "list" fAppend (mV 4) (mCons (mTup (mCons (mCallB fTuple (mCons (mV 6) mNil)) (mCons (mBin (fAdd false) (mC (.int 1)) (mCall m__law_draw (mCons (mV 0) (mCons (mBin fIx (mLst false (mCons (mC (.int 5)) (mCons (mBin fPowI (mC (.int 10)) (mC (.int 6))) mNil))) (mCall m__law_draw (mCons (mV 0) (mCons (mC (.int 2)) mNil)))) mNil)))) mNil))) mNil))))
theorem drawn_body (hcs : cs.length ≤ 1000) {p m : Int} (hp1 : 2 ≤ p) (hp2 : p ≤ 251) (hm1 : 1 ≤ m) (hm2 : m ≤ 10) (ha : 0 ≤ a) (hb : 0 ≤ b) (r1 r6 : Option PV) (x : PV) (ys : List (List Int × Int)) (hy : ys.length ≤ 1000) (junk : PH) :
    ∃ (y : List Int × Int) (r6' : Option PV) (junk' : PH) (a' b' t' : Int), drawnB [some (.ref 0), r1, some (.int p), some (.int m), some (.ref 1), some x, r6, none] (bagH cs a b t (.lst (ys.map pcP) :: junk)) =
      .nx [some (.ref 0), r1, some (.int p), some (.int m), some (.ref 1), some x, r6', none] (bagH cs a' b' t' (.lst ((ys ++ [y]).map pcP) :: junk')) ∧ pieceB p m y = true ∧ 0 ≤ a' ∧ 0 ≤ b' := by
  generalize he : (PO.lst (ys.map pcP) :: junk : PH) = e
  obtain ⟨vs, a1, b1, t1, lc, x1, x2, x3, x4⟩ := compL_draw (cs := cs) (e := e) hcs p (by omega) (by omega) r1 (some (.int m)) (some (.ref 1)) (some x) r6 none ((List.range m.toNat).map fun k => .int (k : Nat)) [] a b t ha hb (by simp; omega)
  have lv : (vs.length : Int) = m := by rw [x3]; simp; omega
  obtain ⟨u, a2, b2, t2, d1, u1, u2, u3, u4⟩ := draw_eq (cs := cs) (a := a1) (b := b1) (t := t1) (many := p - 1) (e := e ++ [.lst (vs.map PV.int)]) x1 x2 (by omega) (by omega) hcs
  obtain ⟨i, a3, b3, t3, d2, i1, i2, i3, i4⟩ := draw_eq (cs := cs) (a := a2) (b := b2) (t := t2) (many := m) (e := e ++ [.lst (vs.map PV.int)]) u3 u4 (by omega) (by omega) hcs
  have hi : i.toNat < vs.length := by omega
  obtain ⟨w, a4, b4, t4, d3, w1, w2, w3, w4⟩ := draw_eq (cs := cs) (a := a3) (b := b3) (t := t3) (many := 2) (e := e ++ [.lst ((vs.set i.toNat (1 + u)).map PV.int)]) i3 i4 (by decide) (by decide) hcs
  obtain ⟨q, hq, iq⟩ := ix_in [.int 5, .int 1000000] w w1 (by simpa using w2) (bagH cs a4 b4 t4 (e ++ [.lst ((vs.set i.toNat (1 + u)).map PV.int)]))
  obtain ⟨k, rfl, k1, k2⟩ : ∃ k, q = .int k ∧ 0 < k ∧ k ≤ 1000000 := by
    simp only [List.mem_cons, List.not_mem_nil, or_false] at hq
    rcases hq with rfl | rfl
    · exact ⟨5, rfl, by omega, by omega⟩
    · exact ⟨1000000, rfl, by omega, by omega⟩
  obtain ⟨z, a5, b5, t5, d4, z1, z2, z3, z4⟩ := draw_eq (cs := cs) (a := a4) (b := b4) (t := t4) (many := k) (e := e ++ [.lst ((vs.set i.toNat (1 + u)).map PV.int)]) w3 w4 k1 (by omega) hcs
  have pc : pieceB p m (vs.set i.toNat (1 + u), 1 + z) = true := pieceB_mk hm1 hm2 (by rw [List.length_set]; exact lv) (fun v hv => by
    rcases set_mem hv with hv | rfl
    · exact x4 v hv
    · omega) ⟨1 + u, List.mem_set hi _, by omega⟩ (by omega) (by omega)
  refine ⟨(vs.set i.toNat (1 + u), 1 + z), some (.ref (e.length + 1)), junk ++ [.lst ((vs.set i.toNat (1 + u)).map PV.int)], a5, b5, t5, ?_, pc, z3, z4⟩
  unfold drawnB
  have rg := range1_int m (by omega) (by omega) (bagH cs a b t e)
  have it := mItA_eq (f := itRange1) (as := mCons (mV 3) mNil) (ρ := [some (.ref 0), r1, some (.int p), some (.int m), some (.ref 1), some x, r6, none]) (h := bagH cs a b t e) (ps := [.int m]) (h1 := bagH cs a b t e) (by simp [mV])
  rw [rg] at it
  have lce : mLc true [7] (mItA itRange1 (mCons (mV 3) mNil)) (.nm 7) tYes_ (mCall m__law_draw (mCons (mV 0) (mCons (mV 2) mNil))) [some (.ref 0), r1, some (.int p), some (.int m), some (.ref 1), some x, r6, none] (bagH cs a b t e) = .ok (.ref (e.length + 1)) (bagH cs a1 b1 t1 (e ++ [.lst (vs.map PV.int)])) := by
    unfold mLc
    rw [it]
    have wp : wipeR [some (.ref 0), r1, some (.int p), some (.int m), some (.ref 1), some x, r6, none] [7] = [some (.ref 0), r1, some (.int p), some (.int m), some (.ref 1), some x, r6, none] := rfl
    simp only [Out.bind, wp]
    simp only [List.map_nil, List.nil_append] at lc
    rw [lc]
    rfl
  refine (seq_nx (ρ1 := [some (.ref 0), r1, some (.int p), some (.int m), some (.ref 1), some x, some (.ref (e.length + 1)), none]) (h1 := bagH cs a1 b1 t1 (e ++ [.lst (vs.map PV.int)])) (by simp only [ev_mAsg, lce, ev_st_ok, ev_asg_nm, List.set_cons_succ, List.set_cons_zero])).trans ?_
  have st : fSetL (.ref (e.length + 1)) (.int i) (.int (1 + u)) (bagH cs a3 b3 t3 (e ++ [.lst (vs.map PV.int)])) = some (bagH cs a3 b3 t3 (e ++ [.lst ((vs.set i.toNat (1 + u)).map PV.int)])) := by
    have g : (bagH cs a3 b3 t3 (e ++ [.lst (vs.map PV.int)]))[e.length + 1]? = some (.lst (vs.map PV.int)) := by
      show (e ++ [PO.lst (vs.map PV.int)])[e.length]? = _
      exact app_get _ _
    have ii : ixN (vs.map PV.int).length i = some i.toNat := by
      unfold ixN
      rw [List.length_map]
      rw [if_pos i1, if_pos (by omega)]
    have ss : (bagH cs a3 b3 t3 (e ++ [.lst (vs.map PV.int)])).set (e.length + 1) (.lst ((vs.map PV.int).set i.toNat (.int (1 + u)))) = bagH cs a3 b3 t3 (e ++ [.lst ((vs.set i.toNat (1 + u)).map PV.int)]) := by
      show bagO cs a3 b3 t3 :: (e ++ [PO.lst (vs.map PV.int)]).set e.length (.lst ((vs.map PV.int).set i.toNat (.int (1 + u)))) = _
      rw [app_set, List.map_set]
      rfl
    simp only [fSetL, g, ii, Option.map, ss]
  refine (seq_nx (ρ1 := [some (.ref 0), r1, some (.int p), some (.int m), some (.ref 1), some x, some (.ref (e.length + 1)), none]) (h1 := bagH cs a3 b3 t3 (e ++ [.lst ((vs.set i.toNat (1 + u)).map PV.int)])) ?_).trans ?_
  · have sb : ∀ h, fSubI (.int p) (.int 1) h = some (.int (p - 1), h) := fun h => by simp [fI]
    have ad : ∀ h, fAdd false (.int 1) (.int u) h = some (.int (1 + u), h) := fun h => by simp
    simp only [mSetI, ev_mBin, ev_mC, ev_mCall, ev_mCons, ev_mNil, mV, List.getElem?_cons_succ, List.getElem?_cons_zero, ev_bind_ok, sb, ev_opt_some, d1, ad, ev_st_ok, d2, st]
  have g6 : ∀ a b t, (bagH cs a b t (e ++ [.lst ((vs.set i.toNat (1 + u)).map PV.int)]))[e.length + 1]? = some (.lst ((vs.set i.toNat (1 + u)).map PV.int)) := fun a b t => by
    show (e ++ [PO.lst ((vs.set i.toNat (1 + u)).map PV.int)])[e.length]? = _
    exact app_get _ _
  have tp : fTuple [.ref (e.length + 1)] (bagH cs a3 b3 t3 (e ++ [.lst ((vs.set i.toNat (1 + u)).map PV.int)])) = some (.tup ((vs.set i.toNat (1 + u)).map PV.int), bagH cs a3 b3 t3 (e ++ [.lst ((vs.set i.toNat (1 + u)).map PV.int)])) := by
    simp only [fTuple, asQ, asL, g6]
    rfl
  have pw : ∀ h, fPowI (.int 10) (.int 6) h = some (.int 1000000, h) := fun h => by
    have e : cPow 10 6 = true := by decide
    simp [fPowI, fIc, e]
  have ad : ∀ h, fAdd false (.int 1) (.int z) h = some (.int (1 + z), h) := fun h => by simp
  have s2 : (2 : Nat) ≤ sizeLine := by rw [sizeLine_eq]; decide
  have ev : (mTup (mCons (mCallB fTuple (mCons (mV 6) mNil)) (mCons (mBin (fAdd false) (mC (.int 1)) (mCall m__law_draw (mCons (mV 0) (mCons (mBin fIx (mLst false (mCons (mC (.int 5)) (mCons (mBin fPowI (mC (.int 10)) (mC (.int 6))) mNil))) (mCall m__law_draw (mCons (mV 0) (mCons (mC (.int 2)) mNil)))) mNil)))) mNil))) [some (.ref 0), r1, some (.int p), some (.int m), some (.ref 1), some x, some (.ref (e.length + 1)), none] (bagH cs a3 b3 t3 (e ++ [.lst ((vs.set i.toNat (1 + u)).map PV.int)])) = .ok (pcP (vs.set i.toNat (1 + u), 1 + z)) (bagH cs a5 b5 t5 (e ++ [.lst ((vs.set i.toNat (1 + u)).map PV.int)])) := by
    simp only [ev_mTup, ev_mCons, ev_mNil, ev_mCallB, ev_mBin, ev_mC, ev_mCall, ev_mLst, mV, List.getElem?_cons_succ, List.getElem?_cons_zero, ev_bind_ok, tp, ev_opt_some, pw, List.length_cons, List.length_nil, Nat.zero_add, Nat.reduceAdd, s2, if_true, ev_newL_f, d3, iq, d4, ad]
    rfl
  have ap : fAppend (.ref 1) [pcP (vs.set i.toNat (1 + u), 1 + z)] (bagH cs a5 b5 t5 (e ++ [.lst ((vs.set i.toNat (1 + u)).map PV.int)])) = some (.non, bagH cs a5 b5 t5 (.lst ((ys ++ [(vs.set i.toNat (1 + u), 1 + z)]).map pcP) :: (junk ++ [.lst ((vs.set i.toNat (1 + u)).map PV.int)]))) := by
    subst he
    have hz : (ys.map pcP).length < sizeLine := by rw [List.length_map, sizeLine_eq]; omega
    simp only [fAppend, bagH, List.getElem?_cons_succ, List.cons_append, List.getElem?_cons_zero, hz, if_true, List.set_cons_succ, List.set_cons_zero, List.map_append, List.map_cons, List.map_nil]
  have g1 : asL (bagH cs a3 b3 t3 (e ++ [.lst ((vs.set i.toNat (1 + u)).map PV.int)])) (.ref 1) = some (ys.map pcP) := by subst he; rfl
  have it1 : isT "list" (bagH cs a3 b3 t3 (e ++ [.lst ((vs.set i.toNat (1 + u)).map PV.int)])) (.ref 1) = true := by simp only [isT, g1, Option.isSome_some, decide_true, Bool.and_self, Bool.or_true]
  have g5 : asL (bagH cs a5 b5 t5 (e ++ [.lst ((vs.set i.toNat (1 + u)).map PV.int)])) (.ref 1) = some (ys.map pcP) := by subst he; rfl
  have it5 : isT "list" (bagH cs a5 b5 t5 (e ++ [.lst ((vs.set i.toNat (1 + u)).map PV.int)])) (.ref 1) = true := by simp only [isT, g5, Option.isSome_some, decide_true, Bool.and_self, Bool.or_true]
  generalize (mTup (mCons (mCallB fTuple (mCons (mV 6) mNil)) (mCons (mBin (fAdd false) (mC (.int 1)) (mCall m__law_draw (mCons (mV 0) (mCons (mBin fIx (mLst false (mCons (mC (.int 5)) (mCons (mBin fPowI (mC (.int 10)) (mC (.int 6))) mNil))) (mCall m__law_draw (mCons (mV 0) (mCons (mC (.int 2)) mNil)))) mNil)))) mNil))) = E at ev ⊢
  simp only [ev_mExpr, ev_mMt, mV, List.getElem?_cons_succ, List.getElem?_cons_zero, ev_bind_ok, it1, it5, if_true, ev_mCons, ev_mNil, ev, ap, ev_opt_some, ev_st_ok]
theorem drawn_loop (hcs : cs.length ≤ 1000) {p m : Int} (hp1 : 2 ≤ p) (hp2 : p ≤ 251) (hm1 : 1 ≤ m) (hm2 : m ≤ 10) (r1 : Option PV) : ∀ (L : List PV) (ys : List (List Int × Int)) (junk : PH) (a b t : Int) (r5 r6 : Option PV), 0 ≤ a → 0 ≤ b → ys.length + L.length ≤ 1000 → (∀ y ∈ ys, pieceB p m y = true) →
    ∃ (ys' : List (List Int × Int)) (junk' : PH) (a' b' t' : Int) (r5' r6' : Option PV), forL (fun _ => true) (.nm 5) drawnB L [some (.ref 0), r1, some (.int p), some (.int m), some (.ref 1), r5, r6, none] (bagH cs a b t (.lst (ys.map pcP) :: junk)) =
      .nx [some (.ref 0), r1, some (.int p), some (.int m), some (.ref 1), r5', r6', none] (bagH cs a' b' t' (.lst (ys'.map pcP) :: junk')) ∧ 0 ≤ a' ∧ 0 ≤ b' ∧ ys'.length = ys.length + L.length ∧ ∀ y ∈ ys', pieceB p m y = true
  | [], ys, junk, a, b, t, r5, r6, ha, hb, hl, hy => ⟨ys, junk, a, b, t, r5, r6, by simp [forL], ha, hb, by simp, hy⟩
  | x :: L, ys, junk, a, b, t, r5, r6, ha, hb, hl, hy => by
    obtain ⟨y, r6', junk', a1, b1, t1, e1, py, x1, x2⟩ := drawn_body (a := a) (b := b) (t := t) hcs hp1 hp2 hm1 hm2 ha hb r1 r6 x ys (by simp at hl; omega) junk
    obtain ⟨ys', junk2, a', b', t', r5', r62, ih, y1, y2, y3, y4⟩ := drawn_loop hcs hp1 hp2 hm1 hm2 r1 L (ys ++ [y]) junk' a1 b1 t1 (some x) r6' x1 x2 (by simp at hl ⊢; omega) (fun z hz => by
      rcases List.mem_append.mp hz with hz | hz
      · exact hy z hz
      · rw [List.mem_singleton.mp hz]; exact py)
    refine ⟨ys', junk2, a', b', t', r5', r62, ?_, y1, y2, by rw [y3]; simp; omega, y4⟩
    rw [← ih]
    simp only [forL, asg, List.set_cons_succ, List.set_cons_zero, e1, if_true]
theorem primes_pos : 0 < primesL.length ∧ primesL.length < 1000 := by decide +kernel
theorem drawn_eq (hcs : cs.length ≤ 1000) (ha : 0 ≤ a) (hb : 0 ≤ b) :
    ∃ (p m : Int) (ys : List (List Int × Int)) (a' b' t' : Int), m__law_drawn [.ref 0] (bagH cs a b t []) = .ok (.tup [.int p, .int m, .tup (ys.map pcP)]) (bagH cs a' b' t' []) ∧ 0 ≤ a' ∧ 0 ≤ b' ∧ primeB p = true ∧ 1 ≤ m ∧ m ≤ 10 ∧ ys.length ≤ 40 ∧ ∀ y ∈ ys, pieceB p m y = true := by
  obtain ⟨pl0, pl1⟩ := primes_pos
  have pr := primes_eq (bagH cs a b t [])
  obtain ⟨v1, a1, b1, t1, e1, v11, v12, x1, y1⟩ := draw_eq (cs := cs) (a := a) (b := b) (t := t) (many := (primesL.length : Int)) (e := []) ha hb (by omega) (by omega) hcs
  obtain ⟨q, hq, iq⟩ := ix_in (primesL.map PV.int) v1 v11 (by rw [List.length_map]; exact v12) (bagH cs a1 b1 t1 [])
  obtain ⟨p, hp, rfl⟩ := List.mem_map.mp hq
  have pB : primeB p = true := by
    rw [← primes_any]
    exact List.any_eq_true.mpr ⟨p, hp, by simp⟩
  obtain ⟨p1, p2⟩ := prime_iff pB
  have ln : ∀ h, fLen [.lst (primesL.map PV.int)] h = some (.int (primesL.length : Int), h) := fun h => by simp only [fLen, asQ, asL, List.length_map]
  generalize primesL.map PV.int = PL at pr iq ln
  obtain ⟨v2, a2, b2, t2, e2, v21, v22, x2, y2⟩ := draw_eq (cs := cs) (a := a1) (b := b1) (t := t1) (many := 2) (e := []) x1 y1 (by decide) (by decide) hcs
  obtain ⟨q2, hq2, iq2⟩ := ix_in [.int 3, .int 10] v2 v21 (by simpa using v22) (bagH cs a2 b2 t2 [])
  obtain ⟨k, rfl, k1, k2⟩ : ∃ k, q2 = .int k ∧ 0 < k ∧ k ≤ 10 := by
    simp only [List.mem_cons, List.not_mem_nil, or_false] at hq2
    rcases hq2 with rfl | rfl
    · exact ⟨3, rfl, by omega, by omega⟩
    · exact ⟨10, rfl, by omega, by omega⟩
  obtain ⟨v3, a3, b3, t3, e3, v31, v32, x3, y3⟩ := draw_eq (cs := cs) (a := a2) (b := b2) (t := t2) (many := k) (e := []) x2 y2 k1 (by omega) hcs
  obtain ⟨v4, a4, b4, t4, e4, v41, v42, x4, y4⟩ := draw_eq (cs := cs) (a := a3) (b := b3) (t := t3) (many := 3) (e := [.lst []]) x3 y3 (by decide) (by decide) hcs
  obtain ⟨q5, hq5, iq5⟩ := ix_in [.int 4, .int 12, .int 41] v4 v41 (by simpa using v42) (bagH cs a4 b4 t4 [.lst []])
  obtain ⟨n, rfl, n1, n2⟩ : ∃ n, q5 = .int n ∧ 0 < n ∧ n ≤ 41 := by
    simp only [List.mem_cons, List.not_mem_nil, or_false] at hq5
    rcases hq5 with rfl | rfl | rfl
    · exact ⟨4, rfl, by omega, by omega⟩
    · exact ⟨12, rfl, by omega, by omega⟩
    · exact ⟨41, rfl, by omega, by omega⟩
  obtain ⟨v5, a5, b5, t5, e5, v51, v52, x5, y5⟩ := draw_eq (cs := cs) (a := a4) (b := b4) (t := t4) (many := n) (e := [.lst []]) x4 y4 n1 (by omega) hcs
  obtain ⟨ys, junk, a6, b6, t6, r5, r6, lp, x6, y6, yl, yp⟩ := drawn_loop (cs := cs) hcs p1 p2 (show 1 ≤ 1 + v3 by omega) (show 1 + v3 ≤ 10 by omega) (some (.lst PL)) ((List.range v5.toNat).map fun k => .int (k : Nat)) [] [] a5 b5 t5 none none x5 y5 (by simp; omega) (fun y hy => by cases hy)
  have hyl : ys.length ≤ 40 := by rw [yl]; simp; omega
  refine ⟨p, 1 + v3, ys, a6, b6, t6, ?_, x6, y6, pB, by omega, by omega, hyl, yp⟩
  have nv : nr (.tup [.int p, .int (1 + v3), .tup (ys.map pcP)]) = true := by simp [nr, nrs, nrs_pcs]
  refine def_rt (v := .tup [.int p, .int (1 + v3), .tup (ys.map pcP)]) (h1 := bagH cs a6 b6 t6 (.lst (ys.map pcP) :: junk)) rfl ?_ (outF_out (e := []) (e2 := .lst (ys.map pcP) :: junk) rfl nv)
  show b__law_drawn [some (.ref 0), none, none, none, none, none, none, none] (bagH cs a b t []) = _
  unfold b__law_drawn
  have s2 : (2 : Nat) ≤ sizeLine := by rw [sizeLine_eq]; decide
  have s3 : (3 : Nat) ≤ sizeLine := by rw [sizeLine_eq]; decide
  have s0 : (0 : Nat) ≤ sizeLine := Nat.zero_le _
  have ad : ∀ h, fAdd false (.int 1) (.int v3) h = some (.int (1 + v3), h) := fun h => by simp
  refine (seq_nx (ρ1 := [some (.ref 0), some (.lst PL), none, none, none, none, none, none]) (h1 := bagH cs a b t []) (by simp only [ev_mAsg, ev_mCall, ev_mNil, ev_bind_ok, pr, ev_st_ok, ev_asg_nm, List.set_cons_succ, List.set_cons_zero])).trans ?_
  refine (seq_nx (ρ1 := [some (.ref 0), some (.lst PL), some (.int p), none, none, none, none, none]) (h1 := bagH cs a1 b1 t1 []) (by simp only [ev_mAsg, ev_mBin, ev_mCall, ev_mCallB, ev_mCons, ev_mNil, mV, List.getElem?_cons_succ, List.getElem?_cons_zero, ev_bind_ok, ln, ev_opt_some, e1, iq, ev_st_ok, ev_asg_nm, List.set_cons_succ, List.set_cons_zero])).trans ?_
  refine (seq_nx (ρ1 := [some (.ref 0), some (.lst PL), some (.int p), some (.int (1 + v3)), none, none, none, none]) (h1 := bagH cs a3 b3 t3 []) (by simp only [ev_mAsg, ev_mBin, ev_mCall, ev_mLst, ev_mC, ev_mCons, ev_mNil, mV, List.getElem?_cons_succ, List.getElem?_cons_zero, ev_bind_ok, List.length_cons, List.length_nil, Nat.zero_add, Nat.reduceAdd, s2, if_true, ev_newL_f, e2, iq2, ev_opt_some, e3, ad, ev_st_ok, ev_asg_nm, List.set_cons_succ, List.set_cons_zero])).trans ?_
  refine (seq_nx (ρ1 := [some (.ref 0), some (.lst PL), some (.int p), some (.int (1 + v3)), some (.ref 1), none, none, none]) (h1 := bagH cs a3 b3 t3 [.lst []]) (by
    simp only [ev_mAsg, ev_mLst, ev_mNil, ev_bind_ok, List.length_nil, s0, if_true, newL, ev_st_ok, ev_asg_nm, List.set_cons_succ, List.set_cons_zero]
    rfl)).trans ?_
  have rg := range1_int v5 (by omega) (by omega) (bagH cs a5 b5 t5 [.lst []])
  have it := mItA_eq (f := itRange1) (as := mCons (mCall m__law_draw (mCons (mV 0) (mCons (mBin fIx (mLst false (mCons (mC (.int 4)) (mCons (mC (.int 12)) (mCons (mC (.int 41)) mNil)))) (mCall m__law_draw (mCons (mV 0) (mCons (mC (.int 3)) mNil)))) mNil))) mNil) (ρ := [some (.ref 0), some (.lst PL), some (.int p), some (.int (1 + v3)), some (.ref 1), none, none, none]) (h := bagH cs a3 b3 t3 [.lst []]) (ps := [.int v5]) (h1 := bagH cs a5 b5 t5 [.lst []]) (by
    simp only [ev_mBin, ev_mCall, ev_mLst, ev_mC, ev_mCons, ev_mNil, mV, List.getElem?_cons_succ, List.getElem?_cons_zero, ev_bind_ok, List.length_cons, List.length_nil, Nat.zero_add, Nat.reduceAdd, s3, if_true, ev_newL_f, e4, iq5, ev_opt_some, e5])
  rw [rg] at it
  refine (seq_nx (for_eq it lp)).trans ?_
  have tp : fTuple [.ref 1] (bagH cs a6 b6 t6 (.lst (ys.map pcP) :: junk)) = some (.tup (ys.map pcP), bagH cs a6 b6 t6 (.lst (ys.map pcP) :: junk)) := rfl
  simp only [ev_mRet, ev_mTup, ev_mCallB, ev_mCons, ev_mNil, mV, List.getElem?_cons_succ, List.getElem?_cons_zero, ev_bind_ok, tp, ev_opt_some, List.length_cons, List.length_nil, Nat.zero_add, Nat.reduceAdd, s3, if_true, ev_st_ok]
end
end Ev
set_option maxHeartbeats 4000000
/-! Q14: equality of webs, texts cut, tuples repeated. -/
namespace Ev
open PySem PySem.Spec PyProof.Rows L2
def pD (y : List Int × Int) : PyData := .tuple [.tuple (y.1.map .int), .int y.2]
theorem dats_pcs : ∀ ys : List (List Int × Int), dats (ys.map pcP) = some (ys.map pD)
  | [] => rfl
  | y :: ys => by
    have ih := dats_pcs ys
    have dv := dats_ints y.1
    have e : dat (pcP y) = some (pD y) := by simp [pcP, dat, dats, dv, pD]
    simp only [List.map_cons, dats, e, ih]
theorem lay_pcs : ∀ ys : List (List Int × Int), PyData.canLayAll0 (ys.map pD) = true
  | [] => rfl
  | y :: ys => by
    have ih := lay_pcs ys
    have l := lay_ints y.1
    simp only [List.map_cons, PyData.canLayAll0, PyData.canLay0, pD, l, ih, Bool.and_self]
theorem dep_pcs : ∀ ys : List (List Int × Int), PyData.depthAll (ys.map pD) ≤ 4
  | [] => by simp [PyData.depthAll]
  | y :: ys => by
    have ih := dep_pcs ys
    have d := dep_ints y.1
    simp only [List.map_cons, PyData.depthAll, PyData.depth, pD]
    omega
theorem eq_webs (p m : Int) (ys : List (List Int × Int)) (h : PH) : fEq (.tup [.int p, .int m, .tup (ys.map pcP)]) (.tup [.int p, .int m, .tup (ys.map pcP)]) h = some (.bl true, h) := by
  have d : dat (.tup [.int p, .int m, .tup (ys.map pcP)]) = some (.tuple [.int p, .int m, .tuple (ys.map pD)]) := by simp [dat, dats, dats_pcs]
  have l := lay_pcs ys
  have dd := dep_pcs ys
  have cl : PyData.canLay0 (.tuple [.int p, .int m, .tuple (ys.map pD)]) = true := by simp [PyData.canLay0, PyData.canLayAll0, l]
  have e : SeqAt.shaped (.tuple [.int p, .int m, .tuple (ys.map pD)]) = true := by
    unfold SeqAt.shaped
    rw [cl, Bool.true_and]
    refine decide_eq_true ?_
    simp only [PyData.depth, PyData.depthAll]
    omega
  have v : PyData.eqv (.tuple [.int p, .int m, .tuple (ys.map pD)]) (.tuple [.int p, .int m, .tuple (ys.map pD)]) = true := SeqAt.eqv_refl _ cl
  simp only [fEq, orF, fEqS, fEqD, datH, d, e, v, Bool.and_self, if_true]
theorem web_eq {w1 w2 : PV} {p m : Int} {ys : List (List Int × Int)} {h : PH} (h1 : fldsOf h w1 = some (("Web" : Str), fsW, webI p m ys)) (h2 : fldsOf h w2 = some (("Web" : Str), fsW, webI p m ys)) : m_Web___eq__ [w1, w2] h = .ok (.bl true) h := by
  refine def_rt (h1 := h) (v := .bl true) rfl ?_ (outF_same rfl)
  show b_Web___eq__ [some w1, some w2] h = _
  unfold b_Web___eq__
  have ic : fIsC "Web" [w2, .gl "Web"] h = some (.bl true, h) := by simp [fIsC, h2]
  refine (seq_nx (ρ1 := [some w1, some w2]) (h1 := h) (by simp only [ev_mIfS, ev_tNot, ev_tB, ev_mCallB, ev_mCons, ev_mNil, ev_mC, mV, List.getElem?_cons_succ, List.getElem?_cons_zero, ev_bind_ok, ic, ev_opt_some, ev_asB, Bool.not_true, Bool.false_eq_true, if_false, ev_mPass, ev_st_ok])).trans ?_
  obtain ⟨x1, x2, x3⟩ := webA p m ys
  have a1 : ∀ f v, look fsW (webI p m ys) f = some v → mAttr "Web" f (mV 0) [some w1, some w2] h = .ok v h := fun f v hv => by simp [mAttr, mV, h1, hv]
  have a2 : ∀ f v, look fsW (webI p m ys) f = some v → mAttr "Web" f (mV 1) [some w1, some w2] h = .ok v h := fun f v hv => by simp [mAttr, mV, h2, hv]
  have s3 : (3 : Nat) ≤ sizeLine := by rw [sizeLine_eq]; decide
  have q := eq_webs p m ys h
  simp only [ev_mRet, ev_mBin, ev_mTup, ev_mCons, ev_mNil, a1 _ _ x1, a1 _ _ x2, a1 _ _ x3, a2 _ _ x1, a2 _ _ x2, a2 _ _ x3, ev_bind_ok, List.length_cons, List.length_nil, Nat.zero_add, Nat.reduceAdd, s3, if_true, q, ev_opt_some, ev_st_ok]
theorem ne_webs {w1 w2 : PV} {p m : Int} {ys : List (List Int × Int)} {h : PH} (h1 : fldsOf h w1 = some (("Web" : Str), fsW, webI p m ys)) (h2 : fldsOf h w2 = some (("Web" : Str), fsW, webI p m ys)) : fNeC "Web" m_Web___eq__ w1 w2 h = some (.bl false, h) := by
  simp [fNeC, h1, h2, web_eq h1 h2]
theorem firstBad_mk {p m : Int} : ∀ {ys : List (List Int × Int)} {k : Nat}, (∀ y ∈ ys, pieceB p m y = true) → firstBad p m ys k = none
  | [], _, _ => rfl
  | y :: ys, k, h => by
    unfold firstBad
    rw [h y List.mem_cons_self]
    exact firstBad_mk fun z hz => h z (List.mem_cons_of_mem _ hz)
theorem badW_mk {p m : Int} {ys : List (List Int × Int)} (h1 : primeB p = true) (h2 : 1 ≤ m) (h3 : m ≤ 10) (h4 : ys.length ≤ 40) (h5 : ∀ y ∈ ys, pieceB p m y = true) : badW p m ys = none := by
  unfold badW
  rw [h1, inIv_int, decide_eq_true h2, decide_eq_true h3, if_neg (by simp), if_neg (by simp), if_neg (by omega), firstBad_mk h5]
  rfl
theorem okZ_mk {p m : Int} {y : List Int × Int} (hp : p ≤ 1000) (hm : 1 ≤ m) (h : pieceB p m y = true) : okZ y = true := by
  obtain ⟨a1, a2, a3, a4, a5⟩ := pieceB_len h
  unfold okZ okY
  have ne : y.1 ≠ [] := fun q => by
    rw [q] at a2
    simp at a2
    omega
  have A : y.1.all okN = true := List.all_eq_true.mpr fun v hv => okN_mk (a5 v hv).1 (by have := (a5 v hv).2; omega)
  rw [decide_eq_true ne, A, okN_mk (show 0 ≤ y.2 by omega) (by omega), decide_eq_true (show y.1.length ≤ 20 by omega)]
  rfl
theorem cutS_init (z : Str) : TL.tl (cutS z none (some (-1))) = (TL.tl z).dropLast := by
  have e := cut_init z.cps.toList
  unfold cutG at e
  rw [← len_tl z] at e
  exact e
theorem joinL_last (S : List Nat) : ∀ ps : List (List Nat), ps ≠ [] → TL.joinL S (ps ++ [[]]) = TL.joinL S ps ++ S
  | [], h => absurd rfl h
  | [p], _ => by simp [TL.joinL]
  | p :: q :: r, _ => by
    have ih := joinL_last S (q :: r) (by simp)
    simp only [List.cons_append] at ih ⊢
    simp only [TL.joinL, ih, List.append_assoc]
theorem textL_tl {ls : List Str} (h : ls ≠ []) : TL.tl (textL ls) = TL.tl (Txt.join "\n" ls) ++ [10] := by
  have z0 : TL.tl ("" : Str) = [] := by decide +kernel
  rw [textL_eq, TL.join_eq, TL.join_eq, TL.tl_join, TL.tl_join, List.map_append, List.map_singleton, z0, joinL_last _ _ (by simpa using h), nl_tl]
theorem text_cut {ls : List Str} (h : ls ≠ []) : cutS (textL ls) none (some (-1)) = Txt.join "\n" ls := by
  refine TL.ext_tl ?_
  rw [cutS_init, textL_tl h, List.dropLast_concat]
theorem cut_split {ls : List Str} (h : ls ≠ []) (ok : ∀ l ∈ ls, (10 : Nat) ∉ TL.tl l) : Txt.split (cutS (textL ls) none (some (-1))) "\n" = ls := by
  rw [text_cut h]
  exact TL.split_join nl_tl (by decide +kernel) h ok
theorem lineP_ne (y : List Int × Int) : lineP y ≠ "" := fun q => by
  have e := congrArg Str.length q
  rw [lineP_eq, len_add, len_add, len_add, piece_len] at e
  have z : ("" : Str).length = 0 := rfl
  omega
theorem rdF_cut {p m : Int} {ys : List (List Int × Int)} (hp : okN p = true) (hm : okN m = true) (ok : ys.all okY = true) : rdF (cutS (textW p m ys) none (some (-1))) = .text (1 + (ys.length : Int)) := by
  have sp := cut_split (ls := lineH p m :: ys.map lineP) (by simp) (lines_free hp hm ok)
  have hi : initL (cutS (textW p m ys) none (some (-1))) = (lineH p m :: ys.map lineP).dropLast := by
    unfold initL textW
    rw [sp]
  have hl : lastL (cutS (textW p m ys) none (some (-1))) = (lineH p m :: ys.map lineP).getLast (by simp) := by
    unfold lastL textW
    simp [sp]
  unfold rdF
  rw [hi]
  rcases List.eq_nil_or_concat ys with h0 | ⟨zs, y, h0⟩
  · subst h0
    rfl
  · subst h0
    have okz : zs.all okY = true := by
      rw [List.concat_eq_append, List.all_append, Bool.and_eq_true_iff] at ok
      exact ok.1
    have e1 : (lineH p m :: (zs.concat y).map lineP).dropLast = lineH p m :: zs.map lineP := by
      rw [List.concat_eq_append, List.map_append, List.map_singleton, ← List.cons_append, List.dropLast_concat]
    have e2 : (lineH p m :: (zs.concat y).map lineP).getLast (by simp) = lineP y := by
      have e3 : lineH p m :: (zs.concat y).map lineP = (lineH p m :: zs.map lineP) ++ [lineP y] := by simp [List.concat_eq_append]
      have gen : ∀ (L : List Str) (hL : L ≠ []), L = (lineH p m :: zs.map lineP) ++ [lineP y] → L.getLast hL = lineP y := fun L hL q => by
        subst q
        exact List.getLast_concat
      exact gen _ _ e3
    rw [e2] at hl
    rw [e1, hl]
    dsimp only
    rw [headF_ok hp hm]
    dsimp only
    rw [scan_lines zs 1 okz]
    rw [if_pos (lineP_ne y)]
    have n : ((List.map lineP zs).length + 2 : Nat) = 1 + (zs.concat y).length := by simp; omega
    rw [n]
    simp
theorem rdF_empty : rdF "" = .text 1 := by
  have e := (textL_parts (ls := []) (fun l hl => by cases hl)).1
  have t : textL [] = "" := rfl
  rw [t] at e
  unfold rdF
  rw [e]
theorem rep_tup (x : PV) (n : Int) (h1 : 1 ≤ n) (h2 : n ≤ 1000) (h : PH) : fMul2 false (.tup [x]) (.int n) h = some (.tup (List.replicate n.toNat x), h) := by
  have e0 : fMul false (.tup [x]) (.int n) h = none := by simp [fMul, orF, fMulI, fIc, fRepL, asM]
  have e1 : fRepT (.tup [x]) (.int n) h = some (.tup (List.replicate n.toNat x), h) := by
    unfold fRepT
    by_cases hn : n = 1
    · subst hn
      simp
    · have c : [x] ≠ [] ∧ 2 ≤ n ∧ n ≤ 1000 ∧ [x].length ≤ 1000 := ⟨by simp, by omega, h2, by simp⟩
      simp only [hn, c, if_false]
      simp [h2, show 2 ≤ n by omega]
  unfold fMul2 orF
  rw [e0, e1]
/-- what is told of a text and what is due -/
theorem told_due {s : Str} (hl : s.length ≤ 800000) (h : PH) (hh : h.all nrO = true) : m__law_told [.str s] h = .ok (rdV (rdF s)) h ∧ m__law_due [.str s] h = .ok (rdV (rdF s)) h ∧ m_read_web [.str s] h = rdX (rdF s) h := by
  have hi : (initL s).length ≤ 900000 := by
    have w := split_wide s "\n" nl_len
    have l := wide_len (Txt.split s "\n")
    unfold initL
    rw [List.length_dropLast]
    omega
  have r := read_eq (s := s) (by omega) (by omega) h hh
  exact ⟨told_x _ h h _ r rfl, due_eq (by omega) hi h hh, r⟩
end Ev
set_option maxHeartbeats 4000000
/-! Q15: the law answers true. -/
namespace Ev
open PySem PySem.Spec PyProof.Rows L2
section
variable {cs : List Int} {a b t : Int} {e : PH}
noncomputable abbrev spB : SM := mAsg (.nm 6) (mCall m__law_spoilt (mCons (mV 1) (mCons (mV 6) mNil)))
def bnd : Nat → Nat
  | 0 => 800000
  | 1 => 200000
  | _ => 50000
theorem spoil_loop {r0 r2 r3 r4 r5 r8 r9 r10 : Option PV} (he : e.all nrO = true) (hcs : cs.length ≤ 1000) (n : Nat) (hn : n ≤ 2) (s : Str) (hs : s.length ≤ 40000) (r7 : Option PV) (ha : 0 ≤ a) (hb : 0 ≤ b) :
    ∃ (s' : Str) (r7' : Option PV) (a' b' t' : Int), forL (fun _ => true) (.nm 7) spB ((List.range n).map fun k => .int (k : Nat)) [r0, some (.ref 0), r2, r3, r4, r5, some (.str s), r7, r8, r9, r10] (bagH cs a b t e) =
      .nx [r0, some (.ref 0), r2, r3, r4, r5, some (.str s'), r7', r8, r9, r10] (bagH cs a' b' t' e) ∧ s'.length ≤ 800000 ∧ 0 ≤ a' ∧ 0 ≤ b' := by
  have lp := forL_invN (chk := fun _ => true) (t := .nm 7) (body := spB) (fun n ρ h => ∃ (s' : Str) (r7' : Option PV) (a' b' t' : Int), ρ = [r0, some (.ref 0), r2, r3, r4, r5, some (.str s'), r7', r8, r9, r10] ∧ h = bagH cs a' b' t' e ∧ s'.length ≤ bnd n ∧ 0 ≤ a' ∧ 0 ≤ b')
    (fun _ _ _ _ => rfl) ((List.range n).map fun k => .int (k : Nat)) [r0, some (.ref 0), r2, r3, r4, r5, some (.str s), r7, r8, r9, r10] (bagH cs a b t e)
    ⟨s, r7, a, b, t, rfl, rfl, by
      rw [List.length_map, List.length_range]
      match n, hn with
      | 0, _ => exact Nat.le_trans hs (by decide)
      | 1, _ => exact Nat.le_trans hs (by decide)
      | 2, _ => exact Nat.le_trans hs (by decide), ha, hb⟩
    (fun x _ m ρ h hm ⟨s', r7', a', b', t', e1, e2, l, x1, x2⟩ => by
      subst e1
      subst e2
      rw [List.length_map, List.length_range] at hm
      have hl : s'.length ≤ 400000 ∧ 2 * s'.length + 100 ≤ bnd m := by
        match m, (show m < 2 by omega) with
        | 0, _ =>
          have : s'.length ≤ 200000 := l
          exact ⟨by omega, show _ ≤ 800000 by omega⟩
        | 1, _ =>
          have : s'.length ≤ 50000 := l
          exact ⟨by omega, show _ ≤ 200000 by omega⟩
      obtain ⟨s2, a2, b2, t2, ee, y1, y2, y3⟩ := spoilt_eq (cs := cs) (a := a') (b := b') (t := t') (e := e) he hcs x1 x2 hl.1
      refine ⟨_, [r0, some (.ref 0), r2, r3, r4, r5, some (.str s2), some x, r8, r9, r10], bagH cs a2 b2 t2 e, rfl, ?_, s2, some x, a2, b2, t2, rfl, rfl, Nat.le_trans y3 hl.2, y1, y2⟩
      simp [mV, ee])
  obtain ⟨ρ', h', ee, s', r7', a', b', t', e1, e2, l, x1, x2⟩ := lp
  exact ⟨s', r7', a', b', t', by rw [ee, e1, e2], l, x1, x2⟩
theorem fNe_self (s : Str) (h : PH) : fNe (.str s) (.str s) h = some (.bl false, h) := by rw [fNe_str]; simp
/-- a text that is read as a web is written again as it was -/
theorem own_text {s : Str} {p m : Int} {ys : List (List Int × Int)} (hr : rdF s = .read p m ys) (h : PH) (hh : h.all nrO = true) : m_web_text [.ins "Web" fsW (webI p m ys)] h = .ok (.str s) h := by
  obtain ⟨t1, t2, t3, t4⟩ := rdF_back hr
  obtain ⟨_, _, _, _, _, _, _, bw⟩ := rdF_read hr
  obtain ⟨b1, b2, b3, b4, b5⟩ := badW_none bw
  obtain ⟨p1, p2⟩ := prime_iff b1
  have z : ys.all okZ = true := List.all_eq_true.mpr fun y hy => okZ_mk (by omega) b2 (b5 y hy)
  have := ptext_eq (w := .ins "Web" fsW (webI p m ys)) t2 t3 z (by omega) h hh (fun _ => rfl)
  rw [t1] at this
  exact this
noncomputable abbrev rdB : SM := mSeq (mAsg (.nm 6) (mV 4))
  (mSeq (mFor (mItA itRange1 (mCons (mCall m__law_draw (mCons (mV 1) (mCons (mC (.int 3)) mNil))) mNil)) (.nm 7) (mAsg (.nm 6) (mCall m__law_spoilt (mCons (mV 1) (mCons (mV 6) mNil)))))
  (mSeq (mAsg (.nm 8) (mCall m__law_due (mCons (mV 6) mNil)))
  (mSeq (mIfS (tNot_ (tB_ (mCall (m__law_is_same 5) (mCons (mCall m__law_told (mCons (mV 6) mNil)) (mCons (mV 8) mNil))))) (mRet (mC (.bl false))) mPass)
  (mIfS (tAnd_ (tB_ (mBin fEq (mBin fIx (mV 8) (mC (.int 0))) (mC (.str "read")))) (tB_ (mBin fNe (mCall m_web_text (mCons (mCall m_read_web (mCons (mV 6) mNil)) mNil)) (mV 6)))) (mRet (mC (.bl false))) mPass))))
theorem read_body {r0 r2 r3 r5 r6 r7 r8 r9 r10 : Option PV} (he : e.all nrO = true) (hcs : cs.length ≤ 1000) (ha : 0 ≤ a) (hb : 0 ≤ b) (T : Str) (hT : T.length ≤ 40000) :
    ∃ (r6' r7' r8' : Option PV) (a' b' t' : Int), rdB [r0, some (.ref 0), r2, r3, some (.str T), r5, r6, r7, r8, r9, r10] (bagH cs a b t e) =
      .nx [r0, some (.ref 0), r2, r3, some (.str T), r5, r6', r7', r8', r9, r10] (bagH cs a' b' t' e) ∧ 0 ≤ a' ∧ 0 ≤ b' := by
  obtain ⟨v, a1, b1, t1, e1, x1, x2, x3, x4⟩ := draw_eq (cs := cs) (a := a) (b := b) (t := t) (many := 3) (e := e) ha hb (by decide) (by decide) hcs
  obtain ⟨s', r7', a2, b2, t2, lp, l3, y1, y2⟩ := spoil_loop (cs := cs) (a := a1) (b := b1) (t := t1) (e := e) (r0 := r0) (r2 := r2) (r3 := r3) (r4 := some (.str T)) (r5 := r5) (r8 := r8) (r9 := r9) (r10 := r10) he hcs v.toNat (by omega) T hT r7 x3 x4
  have rg := range1_int v x1 (by omega) (bagH cs a1 b1 t1 e)
  have eit : mCons (mCall m__law_draw (mCons (mV 1) (mCons (mC (.int 3)) mNil))) mNil [r0, some (.ref 0), r2, r3, some (.str T), r5, some (.str T), r7, r8, r9, r10] (bagH cs a b t e) = .ok [.int v] (bagH cs a1 b1 t1 e) := by
    simp [mV, e1]
  have it := mItA_eq (f := itRange1) eit
  rw [rg] at it
  have hh := bag_nr cs a2 b2 t2 he
  obtain ⟨d1, d2, d3⟩ := told_due (s := s') l3 (bagH cs a2 b2 t2 e) hh
  have sok := (rdV_ok s').1
  have sm := same_refl 5 (rdV (rdF s')) (bagH cs a2 b2 t2 e) sok
  refine ⟨some (.str s'), r7', some (rdV (rdF s')), a2, b2, t2, ?_, y1, y2⟩
  unfold rdB
  refine (seq_nx (ρ1 := [r0, some (.ref 0), r2, r3, some (.str T), r5, some (.str T), r7, r8, r9, r10]) (h1 := bagH cs a b t e) (by simp [mV])).trans ?_
  refine (seq_nx (for_eq it lp)).trans ?_
  refine (seq_nx (ρ1 := [r0, some (.ref 0), r2, r3, some (.str T), r5, some (.str s'), r7', some (rdV (rdF s')), r9, r10]) (h1 := bagH cs a2 b2 t2 e) (by simp only [ev_mAsg, ev_mCall, ev_mCons, ev_mNil, mV, List.getElem?_cons_succ, List.getElem?_cons_zero, ev_bind_ok, d2, ev_st_ok, ev_asg_nm, List.set_cons_succ, List.set_cons_zero])).trans ?_
  refine (seq_nx (ρ1 := [r0, some (.ref 0), r2, r3, some (.str T), r5, some (.str s'), r7', some (rdV (rdF s')), r9, r10]) (h1 := bagH cs a2 b2 t2 e) (by simp only [ev_mIfS, ev_tNot, ev_tB, ev_mCall, ev_mCons, ev_mNil, mV, List.getElem?_cons_succ, List.getElem?_cons_zero, ev_bind_ok, d1, sm, ev_asB, Bool.not_true, Bool.false_eq_true, if_false, ev_mPass, ev_st_ok])).trans ?_
  cases hr : rdF s' with
  | text n =>
    have i0 := tix0 (.str "text") [.int n] (bagH cs a2 b2 t2 e)
    have ew : fEq (.str "text") (.str "read") (bagH cs a2 b2 t2 e) = some (.bl false, bagH cs a2 b2 t2 e) := by rw [fEq_str, decide_eq_false (show ¬ ("text" : Str) = "read" by decide +kernel)]
    simp only [rdV, ev_mIfS, ev_tAnd, ev_tB, ev_mBin, ev_mC, mV, List.getElem?_cons_succ, List.getElem?_cons_zero, ev_bind_ok, i0, ev_opt_some, ew, ev_asB, Bool.false_eq_true, if_false, ev_st_ok, ev_mPass]
  | web v =>
    have i0 := tix0 (.str "web") [v] (bagH cs a2 b2 t2 e)
    have ew : fEq (.str "web") (.str "read") (bagH cs a2 b2 t2 e) = some (.bl false, bagH cs a2 b2 t2 e) := by rw [fEq_str, decide_eq_false (show ¬ ("web" : Str) = "read" by decide +kernel)]
    simp only [rdV, ev_mIfS, ev_tAnd, ev_tB, ev_mBin, ev_mC, mV, List.getElem?_cons_succ, List.getElem?_cons_zero, ev_bind_ok, i0, ev_opt_some, ew, ev_asB, Bool.false_eq_true, if_false, ev_st_ok, ev_mPass]
  | read p m ys =>
    have ot := own_text hr (bagH cs a2 b2 t2 e) hh
    rw [hr] at d3
    have i0 := tix0 (.str "read") [.int p, .int m, .tup (ys.map pcP)] (bagH cs a2 b2 t2 e)
    have ew : fEq (.str "read") (.str "read") (bagH cs a2 b2 t2 e) = some (.bl true, bagH cs a2 b2 t2 e) := by rw [fEq_str]; rfl
    have en := fNe_self s' (bagH cs a2 b2 t2 e)
    simp only [rdX] at d3
    simp only [rdV, ev_mIfS, ev_tAnd, ev_tB, ev_mBin, ev_mC, ev_mCall, ev_mCons, ev_mNil, mV, List.getElem?_cons_succ, List.getElem?_cons_zero, ev_bind_ok, i0, ev_opt_some, ew, ev_asB, if_true, d3, ot, en, Bool.false_eq_true, if_false, ev_st_ok, ev_mPass]
end
theorem told_bad {x : PV} (hk : pk x = true) (hs : ∀ s, x ≠ .str s) (hn : nr x = true) (h : PH) : m__law_told [x] h = .ok (.tup [.str "text", .int 0]) h := by
  have rb : m_read_web [x] h = rdX (.text 0) h := by
    refine def_ex (h1 := h) (ρ := [some x, none, none, none, none, none, none, none]) rfl ?_ (outX_same rfl)
    show b_read_web [some x, none, none, none, none, none, none, none] _ = _
    unfold b_read_web
    refine seq_ex ?_
    simp only [ev_mAsg, ev_mCall, ev_mCons, ev_mNil, mV, List.getElem?_cons_zero, ev_bind_ok, lines_bad hk hs, ev_st_ex]
  exact told_x _ h h _ rb hn
theorem law_true (ns : List Int) (hl : ns.length ≤ 63) : ∃ h', m_law [.rol (ns.map PV.int)] [] = .ok (.bl true) h' := by
  have hcs : ns.length ≤ 1000 := by omega
  have e1 := bag_eq ns hl
  obtain ⟨p, m, ys, a, b, t, e2, x1, x2, pB, m1, m2, yl, yp⟩ := drawn_eq (cs := ns) (a := 0) (b := 0) (t := 0) hcs (Int.le_refl 0) (Int.le_refl 0)
  obtain ⟨p1, p2⟩ := prime_iff pB
  have okp : okN p = true := okN_mk (by omega) (by omega)
  have okm : okN m = true := okN_mk (by omega) (by omega)
  have okz : ys.all okZ = true := List.all_eq_true.mpr fun y hy => okZ_mk (by omega) m1 (yp y hy)
  have bw := badW_mk pB m1 m2 yl yp
  -- the web made
  have ie := init_eq (bagH ns a b t []).length p m ys (bagH ns a b t [] ++ [.ins "Web" [] []]) (app_get _ _)
  rw [bw, app_set] at ie
  obtain ⟨W, hW⟩ : ∃ W : PH, W = [.ins "Web" fsW (webI p m ys)] := ⟨_, rfl⟩
  have hb1 : bagH ns a b t [] ++ [PO.ins "Web" fsW (webI p m ys)] = bagH ns a b t W := by rw [hW]; rfl
  rw [hb1] at ie
  have wnr : W.all nrO = true := by rw [hW]; simp [nrO, nrs_web]
  have fW : ∀ a b t (e : PH), fldsOf (bagH ns a b t W ++ e) (.ref 1) = some (("Web" : Str), fsW, webI p m ys) := fun a b t e => by rw [hW]; rfl
  have fW0 : ∀ a b t, fldsOf (bagH ns a b t W) (.ref 1) = some (("Web" : Str), fsW, webI p m ys) := fun a b t => by rw [hW]; rfl
  have bnr := fun a b t => bag_nr ns a b t wnr
  -- its text
  have tl := text_len okp okm okz (show ys.length ≤ 50 by omega)
  have hr := rdF_text okp okm (okZ_Y okz)
  rw [bw] at hr
  simp only at hr
  have lt := fun a b t => ltext_eq okp okm okz (show ys.length ≤ 50 by omega) (bagH ns a b t W) (bnr a b t)
  have pt := ptext_eq (w := .ref 1) okp okm okz (show ys.length ≤ 50 by omega) (bagH ns a b t W) (bnr a b t) (fW a b t)
  have rc := rdF_cut okp okm (okZ_Y okz)
  generalize textW p m ys = T at tl hr lt pt rc
  obtain ⟨d1, d2, d3⟩ := told_due (s := T) (by omega) (bagH ns a b t W) (bnr a b t)
  have sok := (rdV_ok T).1
  rw [hr] at d1 d2 d3 sok
  simp only [rdX] at d3
  have sm := same_refl 5 _ (bagH ns a b t W) sok
  have ad : fAdd false (.tup [.str "read"]) (.tup [.int p, .int m, .tup (ys.map pcP)]) (bagH ns a b t W) = some (rdV (.read p m ys), bagH ns a b t W) := addT_ok [.str "read"] [.int p, .int m, .tup (ys.map pcP)] (by simp) _
  have nw : fNeC "Web" m_Web___eq__ (.ins "Web" fsW (webI p m ys)) (.ref 1) (bagH ns a b t W) = some (.bl false, bagH ns a b t W) := ne_webs rfl (fW0 a b t)
  have z1 : (1 : Nat) ≤ sizeLine := by rw [sizeLine_eq]; decide
  have z2 : (2 : Nat) ≤ sizeLine := by rw [sizeLine_eq]; decide
  have z3 : (3 : Nat) ≤ sizeLine := by rw [sizeLine_eq]; decide
  have z0 : (0 : Nat) ≤ sizeLine := Nat.zero_le _
  obtain ⟨D, hD⟩ : ∃ D, D = PV.tup [.int p, .int m, .tup (ys.map pcP)] := ⟨_, rfl⟩
  have i0 : ∀ h, fIx D (.int 0) h = some (.int p, h) := fun h => by rw [hD]; exact tix0 _ _ _
  have i1 : ∀ h, fIx D (.int 1) h = some (.int m, h) := fun h => by rw [hD]; exact tix1 _ _ _ _
  have i2 : ∀ h, fIx D (.int 2) h = some (.tup (ys.map pcP), h) := fun h => by rw [hD]; exact ix_tup [.int p, .int m, .tup (ys.map pcP)] 2 (by simp) h
  rw [← hD] at e2 lt ad
  have nself := fNe_self T (bagH ns a b t W)
  -- the loop of spoilt texts
  have L1 := forL_inv (chk := fun _ => true) (t := .nm 5) (body := rdB)
    (fun ρ h => ∃ (s5 s6 s7 s8 : Option PV) (a b t : Int), ρ = [some (.rol (ns.map PV.int)), some (.ref 0), some D, some (.ref 1), some (.str T), s5, s6, s7, s8, none, none] ∧ h = bagH ns a b t W ∧ 0 ≤ a ∧ 0 ≤ b)
    (fun _ _ _ => rfl) ((List.range 6).map fun k => .int (k : Nat)) [some (.rol (ns.map PV.int)), some (.ref 0), some D, some (.ref 1), some (.str T), none, none, none, none, none, none] (bagH ns a b t W) ⟨_, _, _, _, a, b, t, rfl, rfl, x1, x2⟩
    (fun x _ ρ h ⟨s5, s6, s7, s8, a, b, t, q1, q2, x1, x2⟩ => by
      subst q1
      subst q2
      obtain ⟨s6', s7', s8', a', b', t', ee, y1, y2⟩ := read_body (cs := ns) (a := a) (b := b) (t := t) (e := W) (r0 := some (.rol (ns.map PV.int))) (r2 := some D) (r3 := some (.ref 1)) (r5 := some x) (r6 := s6) (r7 := s7) (r8 := s8) (r9 := none) (r10 := none) wnr hcs x1 x2 T (by omega)
      exact ⟨_, _, _, rfl, ee, some x, s6', s7', s8', a', b', t', rfl, rfl, y1, y2⟩)
  obtain ⟨ρ1, h1, L1, s5, s6, s7, s8, a1, b1, t1, hρ1, hh1, x3, x4⟩ := L1
  subst hρ1
  subst hh1
  -- many pieces alike
  obtain ⟨v, a2, b2, t2, e9, v1, v2, x5, x6⟩ := draw_eq (cs := ns) (a := a1) (b := b1) (t := t1) (many := 2) (e := W) x3 x4 (by decide) (by decide) hcs
  obtain ⟨zs, hzs⟩ : ∃ zs : List (List Int × Int), zs = List.replicate (40 + v).toNat (List.replicate m.toNat (1 : Int), 7) := ⟨_, rfl⟩
  have zz : zs.all okZ = true := by
    rw [hzs]
    refine List.all_eq_true.mpr fun y hy => ?_
    rw [List.eq_of_mem_replicate hy]
    have ne : List.replicate m.toNat (1 : Int) ≠ [] := fun q => by
      have := congrArg List.length q
      simp at this
      omega
    have A : (List.replicate m.toNat (1 : Int)).all okN = true := List.all_eq_true.mpr fun z hz => by rw [List.eq_of_mem_replicate hz]; rfl
    unfold okZ okY
    rw [decide_eq_true ne, A, decide_eq_true (show (List.replicate m.toNat (1 : Int)).length ≤ 20 by simp; omega)]
    rfl
  have zl : zs.length ≤ 50 := by rw [hzs, List.length_replicate]; omega
  have zp : PV.tup (List.replicate (40 + v).toNat (.tup [.tup (List.replicate m.toNat (.int 1)), .int 7])) = .tup (zs.map pcP) := by
    rw [hzs, List.map_replicate]
    simp [pcP]
  have lz := ltext_eq okp okm zz zl (bagH ns a2 b2 t2 W) (bnr a2 b2 t2)
  have tz := text_len okp okm zz zl
  generalize textW p m zs = Z at lz tz
  obtain ⟨k1, k2, _⟩ := told_due (s := Z) (by omega) (bagH ns a2 b2 t2 W) (bnr a2 b2 t2)
  have smz := same_refl 5 _ (bagH ns a2 b2 t2 W) (rdV_ok Z).1
  have r1 := rep_tup (.int 1) m m1 (by omega)
  have r2 := rep_tup (.tup [.tup (List.replicate m.toNat (.int 1)), .int 7]) (40 + v) (by omega) (by omega)
  rw [zp] at r2
  have ad40 : ∀ h, fAdd false (.int 40) (.int v) h = some (.int (40 + v), h) := fun h => by simp
  -- what is no text
  have L3 := forL_inv (chk := fun _ => true) (t := .nm 10) (body := mIfS (tNot_ (tB_ (mCall (m__law_is_same 5) (mCons (mCall m__law_told (mCons (mV 10) mNil)) (mCons (mTup (mCons (mC (.str "text")) (mCons (mC (.int 0)) mNil))) mNil))))) (mRet (mC (.bl false))) mPass)
    (fun ρ h => ∃ s10 : Option PV, ρ = [some (.rol (ns.map PV.int)), some (.ref 0), some D, some (.ref 1), some (.str T), s5, s6, s7, s8, some (.str Z), s10] ∧ h = bagH ns a2 b2 t2 W)
    (fun _ _ _ => rfl) [.non, .int 5, .tup [], .lst [.str T], .bl true] [some (.rol (ns.map PV.int)), some (.ref 0), some D, some (.ref 1), some (.str T), s5, s6, s7, s8, some (.str Z), none] (bagH ns a2 b2 t2 W) ⟨_, rfl, rfl⟩
    (fun x hx ρ h ⟨s10, q1, q2⟩ => by
      subst q1
      subst q2
      have hk : pk x = true ∧ (∀ s, x ≠ .str s) ∧ nr x = true := by
        simp only [List.mem_cons, List.not_mem_nil, or_false] at hx
        rcases hx with rfl | rfl | rfl | rfl | rfl
        all_goals exact ⟨rfl, fun s z => (by cases z), rfl⟩
      have tb := told_bad hk.1 hk.2.1 hk.2.2 (bagH ns a2 b2 t2 W)
      have sm0 := same_refl 5 (.tup [.str "text", .int 0]) (bagH ns a2 b2 t2 W) rfl
      refine ⟨_, [some (.rol (ns.map PV.int)), some (.ref 0), some D, some (.ref 1), some (.str T), s5, s6, s7, s8, some (.str Z), some x], bagH ns a2 b2 t2 W, rfl, ?_, some x, rfl, rfl⟩
      simp only [List.set_cons_succ, List.set_cons_zero, ev_mIfS, ev_tNot, ev_tB, ev_mCall, ev_mCons, ev_mNil, mV, List.getElem?_cons_succ, List.getElem?_cons_zero, tb, ev_bind_ok, ev_mTup, ev_mC, List.length_cons, List.length_nil, Nat.zero_add, Nat.reduceAdd, z2, if_true, sm0, ev_asB, Bool.not_true, Bool.false_eq_true, if_false, ev_st_ok, ev_mPass])
  obtain ⟨ρ3, h3, L3, s10, hρ3, hh3⟩ := L3
  subst hρ3
  subst hh3
  -- the last two texts
  have cl := cutS_length T none (some (-1))
  obtain ⟨c1, _, _⟩ := told_due (s := cutS T none (some (-1))) (by omega) (bagH ns a2 b2 t2 W) (bnr a2 b2 t2)
  rw [rc] at c1
  obtain ⟨c2, _, _⟩ := told_due (s := "") (by decide) (bagH ns a2 b2 t2 W) (bnr a2 b2 t2)
  rw [rdF_empty] at c2
  have sc1 := same_refl 5 (.tup [.str "text", .int (1 + (ys.length : Int))]) (bagH ns a2 b2 t2 W) rfl
  have sc2 := same_refl 5 (.tup [.str "text", .int 1]) (bagH ns a2 b2 t2 W) rfl
  have sl := sl_str_ok T (by omega) none (some (-1)) (bagH ns a2 b2 t2 W)
  have lny : ∀ h, fLen [.tup (ys.map pcP)] h = some (.int (ys.length : Int), h) := fun h => by simp [fLen, asQ, asL, asT]
  have ad1 : ∀ h, fAdd false (.int 1) (.int (ys.length : Int)) h = some (.int (1 + (ys.length : Int)), h) := fun h => by simp
  have ng : ∀ h, fNeg (.int 1) h = some (.int (-1), h) := fun h => by simp [fNeg]
  refine ⟨[], def_rt (h1 := bagH ns a2 b2 t2 W) (v := .bl true) rfl ?_ (outF_nr (frz := true) (h := []) (e := bagH ns a2 b2 t2 W) rfl rfl)⟩
  show b_law [some (.rol (ns.map PV.int)), none, none, none, none, none, none, none, none, none, none] [] = _
  unfold b_law
  refine (seq_nx (ρ1 := [some (.rol (ns.map PV.int)), some (.ref 0), none, none, none, none, none, none, none, none, none]) (h1 := bagH ns 0 0 0 []) (by simp [mV, e1])).trans ?_
  refine (seq_nx (ρ1 := [some (.rol (ns.map PV.int)), some (.ref 0), some D, none, none, none, none, none, none, none, none]) (h1 := bagH ns a b t []) (by simp [mV, e2])).trans ?_
  refine (seq_nx (ρ1 := [some (.rol (ns.map PV.int)), some (.ref 0), some D, some (.ref 1), none, none, none, none, none, none, none]) (h1 := bagH ns a b t W) ?_).trans ?_
  · have lb : (bagH ns a b t []).length = 1 := rfl
    rw [lb] at ie
    simp only [ev_mAsg, mNewC, ev_mCons, ev_mNil, ev_mBin, ev_mC, mV, List.getElem?_cons_succ, List.getElem?_cons_zero, ev_bind_ok, i0, i1, i2, ev_opt_some, lb, ie, ev_st_ok, ev_asg_nm, List.set_cons_succ, List.set_cons_zero]
  refine (seq_nx (ρ1 := [some (.rol (ns.map PV.int)), some (.ref 0), some D, some (.ref 1), some (.str T), none, none, none, none, none, none]) (h1 := bagH ns a b t W) (by simp [mV, lt])).trans ?_
  refine (seq_nx (ρ1 := [some (.rol (ns.map PV.int)), some (.ref 0), some D, some (.ref 1), some (.str T), none, none, none, none, none, none]) (h1 := bagH ns a b t W) ?_).trans ?_
  · simp only [ev_mIfS, ev_tOr, ev_tNot, ev_tB, ev_mCall, ev_mCons, ev_mNil, ev_mC, ev_mTup, ev_mBin, mV, List.getElem?_cons_succ, List.getElem?_cons_zero, ev_bind_ok, pt, nself, ev_opt_some, ev_asB, Bool.false_eq_true, if_false, d1, List.length_cons, List.length_nil, Nat.zero_add, z1, if_true, ad, sm, Bool.not_true, d3, nw, ev_st_ok, ev_mPass]
  have r6 := range1_ok 6 (by decide) (bagH ns a b t W)
  have i6 := mItA_eq (f := itRange1) (as := mCons (mC (.int 6)) mNil) (ρ := [some (.rol (ns.map PV.int)), some (.ref 0), some D, some (.ref 1), some (.str T), none, none, none, none, none, none]) (h := bagH ns a b t W) (ps := [.int 6]) rfl
  refine (seq_nx (for_eq (i6.trans r6) L1)).trans ?_
  refine (seq_nx (ρ1 := [some (.rol (ns.map PV.int)), some (.ref 0), some D, some (.ref 1), some (.str T), s5, s6, s7, s8, some (.str Z), none]) (h1 := bagH ns a2 b2 t2 W) ?_).trans ?_
  · simp only [ev_mAsg, ev_mCall, ev_mCons, ev_mNil, ev_mC, ev_mTup, ev_mBin, mV, List.getElem?_cons_succ, List.getElem?_cons_zero, ev_bind_ok, i0, i1, ev_opt_some, List.length_cons, List.length_nil, Nat.zero_add, Nat.reduceAdd, z1, z2, z3, if_true, r1, e9, ad40, r2, lz, ev_st_ok, ev_asg_nm, List.set_cons_succ, List.set_cons_zero]
  refine (seq_nx (ρ1 := [some (.rol (ns.map PV.int)), some (.ref 0), some D, some (.ref 1), some (.str T), s5, s6, s7, s8, some (.str Z), none]) (h1 := bagH ns a2 b2 t2 W) ?_).trans ?_
  · simp only [ev_mIfS, ev_tNot, ev_tB, ev_mCall, ev_mCons, ev_mNil, mV, List.getElem?_cons_succ, List.getElem?_cons_zero, ev_bind_ok, k1, k2, smz, ev_asB, Bool.not_true, Bool.false_eq_true, if_false, ev_mPass, ev_st_ok]
  have ii : mIt (mLst false (mCons (mC .non) (mCons (mC (.int 5)) (mCons (mTup mNil) (mCons (mLst false (mCons (mV 4) mNil)) (mCons (mC (.bl true)) mNil)))))) [some (.rol (ns.map PV.int)), some (.ref 0), some D, some (.ref 1), some (.str T), s5, s6, s7, s8, some (.str Z), none] (bagH ns a2 b2 t2 W) =
      .ok ⟨[.non, .int 5, .tup [], .lst [.str T], .bl true], fun _ => true⟩ (bagH ns a2 b2 t2 W) := by
    simp [mIt, mV, sizeLine_eq, itSeq]
  refine (seq_nx (for_eq ii L3)).trans ?_
  simp only [rdV] at c1 c2
  simp only [ev_mRet, ev_mAnd, ev_mCall, ev_mCons, ev_mNil, ev_mC, ev_mTup, ev_mBin, ev_mCallB, ev_mSl, ev_mUn, mPart, mNoPart, mV, List.getElem?_cons_succ, List.getElem?_cons_zero, ev_bind_ok, ng, ev_opt_some, sl, c1, i2, lny, ad1, List.length_cons, List.length_nil, Nat.zero_add, Nat.reduceAdd, z2, if_true, sc1, ev_asB, c2, sc2, ev_st_ok]
end Ev
set_option maxHeartbeats 4000000
namespace Ev
open PySem PySem.Spec PyProof.Rows L2
/-! ### the text -/
def topS (i : Nat) : Stmt := PySem.Challenge.pw_lightfirst_k73_whole_webs_as_texts.main.body.getD i (.Pass ⟨0, 0, 0, 0⟩)
abbrev s_is_integer : Stmt := topS 5
abbrev s_is_within : Stmt := topS 6
abbrev s_is_pair : Stmt := topS 7
abbrev s_is_prime : Stmt := topS 12
abbrev s_is_sum : Stmt := topS 13
abbrev s_is_piece : Stmt := topS 19
abbrev s_Web___init__ : Stmt := inClass (topS 18) 0
abbrev s_Web___eq__ : Stmt := inClass (topS 18) 1
abbrev s_number_in : Stmt := topS 23
abbrev s_numbers_in : Stmt := topS 24
abbrev s_web_text : Stmt := topS 25
abbrev s_numbers_behind : Stmt := topS 26
abbrev s_lines_in : Stmt := topS 27
abbrev s_read_web : Stmt := topS 28
abbrev s__law_mixed : Stmt := topS 30
abbrev s__law_bag : Stmt := topS 31
abbrev s__law_draw : Stmt := topS 32
abbrev s__law_primes : Stmt := topS 33
abbrev s__law_drawn : Stmt := topS 34
abbrev s__law_text : Stmt := topS 35
abbrev s__law_number : Stmt := topS 36
abbrev s__law_line : Stmt := topS 37
abbrev s__law_bad_part : Stmt := topS 38
abbrev s__law_due : Stmt := topS 39
abbrev s__law_told : Stmt := topS 40
abbrev s__law_is_same : Stmt := topS 41
abbrev s__law_spoilt : Stmt := topS 42
abbrev s_law : Stmt := topS 43
theorem sc_is_integer : FnScope ["thing"] ["thing"] (defScope s_is_integer) := ⟨rfl, rfl, rfl, by decide +kernel, rfl, by decide +kernel, by decide +kernel⟩
theorem sc_is_within : FnScope ["thing", "least", "most"] ["thing", "least", "most"] (defScope s_is_within) := ⟨rfl, rfl, rfl, by decide +kernel, rfl, by decide +kernel, by decide +kernel⟩
theorem sc_is_pair : FnScope ["thing"] ["thing"] (defScope s_is_pair) := ⟨rfl, rfl, rfl, by decide +kernel, rfl, by decide +kernel, by decide +kernel⟩
theorem sc_is_prime : FnScope ["thing", "other"] ["thing"] (defScope s_is_prime) := ⟨rfl, rfl, rfl, by decide +kernel, rfl, by decide +kernel, by decide +kernel⟩
theorem sc_is_sum : FnScope ["prime", "thing", "value"] ["prime", "thing"] (defScope s_is_sum) := ⟨rfl, rfl, rfl, by decide +kernel, rfl, by decide +kernel, by decide +kernel⟩
theorem sc_is_piece : FnScope ["prime", "many", "thing"] ["prime", "many", "thing"] (defScope s_is_piece) := ⟨rfl, rfl, rfl, by decide +kernel, rfl, by decide +kernel, by decide +kernel⟩
theorem sc_Web___init__ : FnScope ["self", "prime", "many", "pieces", "number", "piece"] ["self", "prime", "many", "pieces"] (defScope s_Web___init__) := ⟨rfl, rfl, rfl, by decide +kernel, rfl, by decide +kernel, by decide +kernel⟩
theorem sc_Web___eq__ : FnScope ["self", "other"] ["self", "other"] (defScope s_Web___eq__) := ⟨rfl, rfl, rfl, by decide +kernel, rfl, by decide +kernel, by decide +kernel⟩
theorem sc_number_in : FnScope ["word", "sign"] ["word"] (defScope s_number_in) := ⟨rfl, rfl, rfl, by decide +kernel, rfl, by decide +kernel, by decide +kernel⟩
theorem sc_numbers_in : FnScope ["word", "found", "one"] ["word"] (defScope s_numbers_in) := ⟨rfl, rfl, rfl, by decide +kernel, rfl, by decide +kernel, by decide +kernel⟩
theorem sc_web_text : FnScope ["web", "found", "some", "size", "line", "value"] ["web"] (defScope s_web_text) := ⟨rfl, rfl, rfl, by decide +kernel, rfl, by decide +kernel, by decide +kernel⟩
theorem sc_numbers_behind : FnScope ["line", "word", "many", "words", "found"] ["line", "word", "many"] (defScope s_numbers_behind) := ⟨rfl, rfl, rfl, by decide +kernel, rfl, by decide +kernel, by decide +kernel⟩
theorem sc_lines_in : FnScope ["text", "lines"] ["text"] (defScope s_lines_in) := ⟨rfl, rfl, rfl, by decide +kernel, rfl, by decide +kernel, by decide +kernel⟩
theorem sc_read_web : FnScope ["text", "lines", "rest", "head", "pieces", "number", "line", "found"] ["text"] (defScope s_read_web) := ⟨rfl, rfl, rfl, by decide +kernel, rfl, by decide +kernel, by decide +kernel⟩
theorem sc__law_mixed : FnScope ["_law_cell", "_law_turn", "_law_number_here"] ["_law_cell", "_law_turn"] (defScope s__law_mixed) := ⟨rfl, rfl, rfl, by decide +kernel, rfl, by decide +kernel, by decide +kernel⟩
theorem sc__law_bag : FnScope ["_law_script", "_law_cell"] ["_law_script"] (defScope s__law_bag) := ⟨rfl, rfl, rfl, by decide +kernel, rfl, by decide +kernel, by decide +kernel⟩
theorem sc__law_draw : FnScope ["_law_bag_here", "_law_many", "_law_found", "_law_cells", "_law_at", "_law_cell"] ["_law_bag_here", "_law_many"] (defScope s__law_draw) := ⟨rfl, rfl, rfl, by decide +kernel, rfl, by decide +kernel, by decide +kernel⟩
theorem sc__law_primes : FnScope ["_law_p", "_law_q"] [] (defScope s__law_primes) := ⟨rfl, rfl, rfl, by decide +kernel, rfl, by decide +kernel, by decide +kernel⟩
theorem sc__law_drawn : FnScope ["_law_bag_here", "_law_primes_here", "_law_prime", "_law_many", "_law_pieces", "_law_k", "_law_one", "_law_place"] ["_law_bag_here"] (defScope s__law_drawn) := ⟨rfl, rfl, rfl, by decide +kernel, rfl, by decide +kernel, by decide +kernel⟩
theorem sc__law_text : FnScope ["_law_web", "_law_lines", "_law_one", "_law_size", "_law_line_here", "_law_value"] ["_law_web"] (defScope s__law_text) := ⟨rfl, rfl, rfl, by decide +kernel, rfl, by decide +kernel, by decide +kernel⟩
theorem sc__law_number : FnScope ["_law_word", "_law_sign"] ["_law_word"] (defScope s__law_number) := ⟨rfl, rfl, rfl, by decide +kernel, rfl, by decide +kernel, by decide +kernel⟩
theorem sc__law_line : FnScope ["_law_line_here", "_law_at", "_law_words", "_law_first", "_law_second", "_law_values", "_law_word"] ["_law_line_here", "_law_at"] (defScope s__law_line) := ⟨rfl, rfl, rfl, by decide +kernel, rfl, by decide +kernel, by decide +kernel⟩
theorem sc__law_bad_part : FnScope ["_law_prime", "_law_many", "_law_pieces", "_law_k", "_law_one", "_law_size"] ["_law_prime", "_law_many", "_law_pieces"] (defScope s__law_bad_part) := ⟨rfl, rfl, rfl, by decide +kernel, rfl, by decide +kernel, by decide +kernel⟩
theorem sc__law_due : FnScope ["_law_text_here", "_law_lines", "_law_found", "_law_at", "_law_parts", "_law_bad"] ["_law_text_here"] (defScope s__law_due) := ⟨rfl, rfl, rfl, by decide +kernel, rfl, by decide +kernel, by decide +kernel⟩
theorem sc__law_told : FnScope ["_law_text_here", "_law_web", "_law_found", "e"] ["_law_text_here"] (defScope s__law_told) := ⟨rfl, rfl, rfl, by decide +kernel, rfl, by decide +kernel, by decide +kernel⟩
theorem sc__law_is_same : FnScope ["_law_told_here", "_law_due_here", "_law_k"] ["_law_told_here", "_law_due_here"] (defScope s__law_is_same) := ⟨rfl, rfl, rfl, by decide +kernel, rfl, by decide +kernel, by decide +kernel⟩
theorem sc__law_spoilt : FnScope ["_law_bag_here", "_law_text_here", "_law_signs", "_law_sign", "_law_at", "_law_kind", "_law_lines", "_law_here", "_law_more", "_law_one"] ["_law_bag_here", "_law_text_here"] (defScope s__law_spoilt) := ⟨rfl, rfl, rfl, by decide +kernel, rfl, by decide +kernel, by decide +kernel⟩
theorem sc_law : FnScope ["_law_script", "_law_bag_here", "_law_web", "_law_made", "_law_text_here", "_law_k", "_law_some", "_law_j", "_law_due_here", "_law_whole", "_law_thing"] ["_law_script"] (defScope s_law) := ⟨rfl, rfl, rfl, by decide +kernel, rfl, by decide +kernel, by decide +kernel⟩
structure Ads where
  f_is_integer : Addr
  fd_is_integer : FuncData
  f_is_within : Addr
  fd_is_within : FuncData
  f_is_pair : Addr
  fd_is_pair : FuncData
  f_is_prime : Addr
  fd_is_prime : FuncData
  f_is_sum : Addr
  fd_is_sum : FuncData
  f_is_piece : Addr
  fd_is_piece : FuncData
  f_Web___init__ : Addr
  fd_Web___init__ : FuncData
  f_Web___eq__ : Addr
  fd_Web___eq__ : FuncData
  f_number_in : Addr
  fd_number_in : FuncData
  f_numbers_in : Addr
  fd_numbers_in : FuncData
  f_web_text : Addr
  fd_web_text : FuncData
  f_numbers_behind : Addr
  fd_numbers_behind : FuncData
  f_lines_in : Addr
  fd_lines_in : FuncData
  f_read_web : Addr
  fd_read_web : FuncData
  f__law_mixed : Addr
  fd__law_mixed : FuncData
  f__law_bag : Addr
  fd__law_bag : FuncData
  f__law_draw : Addr
  fd__law_draw : FuncData
  f__law_primes : Addr
  fd__law_primes : FuncData
  f__law_drawn : Addr
  fd__law_drawn : FuncData
  f__law_text : Addr
  fd__law_text : FuncData
  f__law_number : Addr
  fd__law_number : FuncData
  f__law_line : Addr
  fd__law_line : FuncData
  f__law_bad_part : Addr
  fd__law_bad_part : FuncData
  f__law_due : Addr
  fd__law_due : FuncData
  f__law_told : Addr
  fd__law_told : FuncData
  f__law_is_same : Addr
  fd__law_is_same : FuncData
  f__law_spoilt : Addr
  fd__law_spoilt : FuncData
  f_law : Addr
  fd_law : FuncData
  C_KeepError : Addr
  C_BadWeb : Addr
  C_BadText : Addr
  C_Web : Addr
  fI_BadText : Addr
  q_BadText : PySem.FldX_line.Ps
  fI_BadWeb : Addr
  q_BadWeb : PySem.FldX_part.Ps
structure Top (P : Program) (K : PySem.W.Frag) (mg : Str → Option Value) (a : Ads) : Prop where
  F_is_integer : Fun K "is_integer" "is_integer" s_is_integer a.f_is_integer a.fd_is_integer
  b_is_integer : Binds K a.fd_is_integer ["thing"] []
  g_is_integer : mg "is_integer" = some (.ref a.f_is_integer)
  F_is_within : Fun K "is_within" "is_within" s_is_within a.f_is_within a.fd_is_within
  b_is_within : Binds K a.fd_is_within ["thing", "least", "most"] []
  g_is_within : mg "is_within" = some (.ref a.f_is_within)
  F_is_pair : Fun K "is_pair" "is_pair" s_is_pair a.f_is_pair a.fd_is_pair
  b_is_pair : Binds K a.fd_is_pair ["thing"] []
  g_is_pair : mg "is_pair" = some (.ref a.f_is_pair)
  F_is_prime : Fun K "is_prime" "is_prime" s_is_prime a.f_is_prime a.fd_is_prime
  b_is_prime : Binds K a.fd_is_prime ["thing"] []
  g_is_prime : mg "is_prime" = some (.ref a.f_is_prime)
  F_is_sum : Fun K "is_sum" "is_sum" s_is_sum a.f_is_sum a.fd_is_sum
  b_is_sum : Binds K a.fd_is_sum ["prime", "thing"] []
  g_is_sum : mg "is_sum" = some (.ref a.f_is_sum)
  F_is_piece : Fun K "is_piece" "is_piece" s_is_piece a.f_is_piece a.fd_is_piece
  b_is_piece : Binds K a.fd_is_piece ["prime", "many", "thing"] []
  g_is_piece : mg "is_piece" = some (.ref a.f_is_piece)
  F_Web___init__ : Fun K "__init__" "Web.__init__" s_Web___init__ a.f_Web___init__ a.fd_Web___init__
  b_Web___init__ : Binds K a.fd_Web___init__ ["self", "prime", "many", "pieces"] []
  M_Web___init__ : Meth K a.C_Web "__init__" a.f_Web___init__
  F_Web___eq__ : Fun K "__eq__" "Web.__eq__" s_Web___eq__ a.f_Web___eq__ a.fd_Web___eq__
  b_Web___eq__ : Binds K a.fd_Web___eq__ ["self", "other"] []
  M_Web___eq__ : Meth K a.C_Web "__eq__" a.f_Web___eq__
  F_number_in : Fun K "number_in" "number_in" s_number_in a.f_number_in a.fd_number_in
  b_number_in : Binds K a.fd_number_in ["word"] []
  g_number_in : mg "number_in" = some (.ref a.f_number_in)
  F_numbers_in : Fun K "numbers_in" "numbers_in" s_numbers_in a.f_numbers_in a.fd_numbers_in
  b_numbers_in : Binds K a.fd_numbers_in ["word"] []
  g_numbers_in : mg "numbers_in" = some (.ref a.f_numbers_in)
  F_web_text : Fun K "web_text" "web_text" s_web_text a.f_web_text a.fd_web_text
  b_web_text : Binds K a.fd_web_text ["web"] []
  g_web_text : mg "web_text" = some (.ref a.f_web_text)
  F_numbers_behind : Fun K "numbers_behind" "numbers_behind" s_numbers_behind a.f_numbers_behind a.fd_numbers_behind
  b_numbers_behind : Binds K a.fd_numbers_behind ["line", "word", "many"] []
  g_numbers_behind : mg "numbers_behind" = some (.ref a.f_numbers_behind)
  F_lines_in : Fun K "lines_in" "lines_in" s_lines_in a.f_lines_in a.fd_lines_in
  b_lines_in : Binds K a.fd_lines_in ["text"] []
  g_lines_in : mg "lines_in" = some (.ref a.f_lines_in)
  F_read_web : Fun K "read_web" "read_web" s_read_web a.f_read_web a.fd_read_web
  b_read_web : Binds K a.fd_read_web ["text"] []
  g_read_web : mg "read_web" = some (.ref a.f_read_web)
  F__law_mixed : Fun K "_law_mixed" "_law_mixed" s__law_mixed a.f__law_mixed a.fd__law_mixed
  b__law_mixed : Binds K a.fd__law_mixed ["_law_cell", "_law_turn"] []
  g__law_mixed : mg "_law_mixed" = some (.ref a.f__law_mixed)
  F__law_bag : Fun K "_law_bag" "_law_bag" s__law_bag a.f__law_bag a.fd__law_bag
  b__law_bag : Binds K a.fd__law_bag ["_law_script"] []
  g__law_bag : mg "_law_bag" = some (.ref a.f__law_bag)
  F__law_draw : Fun K "_law_draw" "_law_draw" s__law_draw a.f__law_draw a.fd__law_draw
  b__law_draw : Binds K a.fd__law_draw ["_law_bag_here", "_law_many"] []
  g__law_draw : mg "_law_draw" = some (.ref a.f__law_draw)
  F__law_primes : Fun K "_law_primes" "_law_primes" s__law_primes a.f__law_primes a.fd__law_primes
  b__law_primes : Binds K a.fd__law_primes [] []
  g__law_primes : mg "_law_primes" = some (.ref a.f__law_primes)
  F__law_drawn : Fun K "_law_drawn" "_law_drawn" s__law_drawn a.f__law_drawn a.fd__law_drawn
  b__law_drawn : Binds K a.fd__law_drawn ["_law_bag_here"] []
  g__law_drawn : mg "_law_drawn" = some (.ref a.f__law_drawn)
  F__law_text : Fun K "_law_text" "_law_text" s__law_text a.f__law_text a.fd__law_text
  b__law_text : Binds K a.fd__law_text ["_law_web"] []
  g__law_text : mg "_law_text" = some (.ref a.f__law_text)
  F__law_number : Fun K "_law_number" "_law_number" s__law_number a.f__law_number a.fd__law_number
  b__law_number : Binds K a.fd__law_number ["_law_word"] []
  g__law_number : mg "_law_number" = some (.ref a.f__law_number)
  F__law_line : Fun K "_law_line" "_law_line" s__law_line a.f__law_line a.fd__law_line
  b__law_line : Binds K a.fd__law_line ["_law_line_here", "_law_at"] []
  g__law_line : mg "_law_line" = some (.ref a.f__law_line)
  F__law_bad_part : Fun K "_law_bad_part" "_law_bad_part" s__law_bad_part a.f__law_bad_part a.fd__law_bad_part
  b__law_bad_part : Binds K a.fd__law_bad_part ["_law_prime", "_law_many", "_law_pieces"] []
  g__law_bad_part : mg "_law_bad_part" = some (.ref a.f__law_bad_part)
  F__law_due : Fun K "_law_due" "_law_due" s__law_due a.f__law_due a.fd__law_due
  b__law_due : Binds K a.fd__law_due ["_law_text_here"] []
  g__law_due : mg "_law_due" = some (.ref a.f__law_due)
  F__law_told : Fun K "_law_told" "_law_told" s__law_told a.f__law_told a.fd__law_told
  b__law_told : Binds K a.fd__law_told ["_law_text_here"] []
  g__law_told : mg "_law_told" = some (.ref a.f__law_told)
  F__law_is_same : Fun K "_law_is_same" "_law_is_same" s__law_is_same a.f__law_is_same a.fd__law_is_same
  b__law_is_same : Binds K a.fd__law_is_same ["_law_told_here", "_law_due_here"] []
  g__law_is_same : mg "_law_is_same" = some (.ref a.f__law_is_same)
  F__law_spoilt : Fun K "_law_spoilt" "_law_spoilt" s__law_spoilt a.f__law_spoilt a.fd__law_spoilt
  b__law_spoilt : Binds K a.fd__law_spoilt ["_law_bag_here", "_law_text_here"] []
  g__law_spoilt : mg "_law_spoilt" = some (.ref a.f__law_spoilt)
  F_law : Fun K "law" "law" s_law a.f_law a.fd_law
  b_law : Binds K a.fd_law ["_law_script"] []
  g_law : mg "law" = some (.ref a.f_law)
  z_abs : mg "abs" = none
  z_all : mg "all" = none
  z_any : mg "any" = none
  z_bool : mg "bool" = none
  z_enumerate : mg "enumerate" = none
  z_int : mg "int" = none
  z_isinstance : mg "isinstance" = none
  z_len : mg "len" = none
  z_max : mg "max" = none
  z_range : mg "range" = none
  z_str : mg "str" = none
  z_tuple : mg "tuple" = none
  c_FIGURES : ∃ t, mg "FIGURES" = some (.str "0123456789" t)
  c_LEAST_PRIME : ∃ t, mg "LEAST_PRIME" = some (.int 2 t)
  c_MOST_FIGURES : ∃ t, mg "MOST_FIGURES" = some (.int 9 t)
  c_MOST_MANY : ∃ t, mg "MOST_MANY" = some (.int 10 t)
  c_MOST_PIECES : ∃ t, mg "MOST_PIECES" = some (.int 40 t)
  c_MOST_PRIME : ∃ t, mg "MOST_PRIME" = some (.int 251 t)
  c_MOST_SIZE : ∃ t, mg "MOST_SIZE" = some (.int 1000000 t)
  c_MOST_WIDTH : ∃ t, mg "MOST_WIDTH" = some (.int 10 t)
  cl_Web : Cls K a.C_Web
  no_Web_many : NoAttr K a.C_Web "many"
  no_Web_pieces : NoAttr K a.C_Web "pieces"
  no_Web_prime : NoAttr K a.C_Web "prime"
  mk_Web : Mk K a.C_Web a.f_Web___init__
  ne_Web : OwnNe K a.C_Web a.f_Web___eq__
  is_Web : C8.InsC K a.C_Web
  k_KeepError : mg "KeepError" = some (.ref a.C_KeepError)
  k_BadWeb : mg "BadWeb" = some (.ref a.C_BadWeb)
  k_BadText : mg "BadText" = some (.ref a.C_BadText)
  k_Web : mg "Web" = some (.ref a.C_Web)
  x1_BadText : PySem.FldX_line.Txt a.q_BadText P K mg "BadText" a.C_BadText a.fI_BadText
  x1_BadWeb : PySem.FldX_part.Txt a.q_BadWeb P K mg "BadWeb" a.C_BadWeb a.fI_BadWeb
  ec_BadText : ExcC K a.C_BadText
  ki_BadText_KeepError : PySem.W.kitOne K (.ref a.C_BadText) (.ref a.C_KeepError) = some true
  xf_BadText : XfC K a.C_BadText
  xn_BadText_line : PySem.W.findIn K (.ref a.C_BadText) "line" = some none
  ec_BadWeb : ExcC K a.C_BadWeb
  ki_BadWeb_KeepError : PySem.W.kitOne K (.ref a.C_BadWeb) (.ref a.C_KeepError) = some true
  xf_BadWeb : XfC K a.C_BadWeb
  xn_BadWeb_part : PySem.W.findIn K (.ref a.C_BadWeb) "part" = some none
  em_BadText_BadText : PySem.W.exmOne K (.ref a.C_BadText) (.ref a.C_BadText) = some true
  em_BadWeb_BadText : PySem.W.exmOne K (.ref a.C_BadWeb) (.ref a.C_BadText) = some false
  em_BadWeb_BadWeb : PySem.W.exmOne K (.ref a.C_BadWeb) (.ref a.C_BadWeb) = some true
section
variable {P : Program} {w : World} {K : PySem.W.Frag} {mg : Str → Option Value} {base : Heap} {a : Ads}
theorem ok_is_integer (T : Top P K mg a) : FnM P w K mg base 1 a.f_is_integer a.fd_is_integer ["thing"] m_is_integer := by
  unfold m_is_integer
  have z := FnM.of (P := P) (w := w) (mg := mg) (base := base) (k := 0) (body := b_is_integer) true T.F_is_integer sc_is_integer
  exact z (fun cdv A outer s H E hr =>
  (ms_one (ms_ret (me_and (me_callB cm_isi T.z_isinstance boot_isinstance (ma_cons (me_v 0) (ma_cons (me_ty T.z_int) ma_nil))) (me_one (me_not (me_callB cm_isi T.z_isinstance boot_isinstance (ma_cons (me_v 0) (ma_cons (me_ty T.z_bool) ma_nil)))))))))
theorem ok_is_within (T : Top P K mg a) (X_is_integer : FnM P w K mg base 1 a.f_is_integer a.fd_is_integer ["thing"] m_is_integer) : FnM P w K mg base 2 a.f_is_within a.fd_is_within ["thing", "least", "most"] m_is_within := by
  have L_is_integer : ∀ qs h, m_is_integer qs h ≠ .bad → qs.length = 1 := by intro qs h e; unfold m_is_integer at e; exact mDef_len e
  unfold m_is_within
  have z := FnM.of (P := P) (w := w) (mg := mg) (base := base) (k := 1) (body := b_is_within) true T.F_is_within sc_is_within
  exact z (fun cdv A outer s H E hr =>
  (ms_one (ms_ret (me_and (me_call X_is_integer L_is_integer (hr.mono (by decide)) T.g_is_integer T.F_is_integer.kp T.b_is_integer (takes_of rfl rfl rfl rfl) (ma_cons (me_v 0) ma_nil)) (me_one (me_chain om_le om_le (me_v 1) (me_v 0) (me_v 2)))))))
theorem ok_is_pair (T : Top P K mg a) : FnM P w K mg base 1 a.f_is_pair a.fd_is_pair ["thing"] m_is_pair := by
  unfold m_is_pair
  have z := FnM.of (P := P) (w := w) (mg := mg) (base := base) (k := 0) (body := b_is_pair) true T.F_is_pair sc_is_pair
  exact z (fun cdv A outer s H E hr =>
  (ms_one (ms_ret (me_and (me_callB cm_isi T.z_isinstance boot_isinstance (ma_cons (me_v 0) (ma_cons (me_ty T.z_tuple) ma_nil))) (me_one (me_cmp (om_eq hr.units) (me_callB cm_len T.z_len boot_len (ma_cons (me_v 0) ma_nil)) me_int))))))
theorem ok_is_prime (T : Top P K mg a) (X_is_within : FnM P w K mg base 2 a.f_is_within a.fd_is_within ["thing", "least", "most"] m_is_within) : FnM P w K mg base 3 a.f_is_prime a.fd_is_prime ["thing"] m_is_prime := by
  have L_is_within : ∀ qs h, m_is_within qs h ≠ .bad → qs.length = 3 := by intro qs h e; unfold m_is_within at e; exact mDef_len e
  unfold m_is_prime
  have z := FnM.of (P := P) (w := w) (mg := mg) (base := base) (k := 2) (body := b_is_prime) true T.F_is_prime sc_is_prime
  exact z (fun cdv A outer s H E hr =>
  (ms_cons (ms_if (mt_not (mt_val (me_call X_is_within L_is_within (hr.mono (by decide)) T.g_is_within T.F_is_within.kp T.b_is_within (takes_of rfl rfl rfl rfl) (ma_cons (me_v 0) (ma_cons (me_kint T.c_LEAST_PRIME) (ma_cons (me_kint T.c_MOST_PRIME) ma_nil)))))) (ms_one (ms_ret me_bl)) ms_nil)
  (ms_one (ms_ret (me_callB (cm_all rfl) T.z_all boot_all (ma_cons (me_lc (t := (.nm 1)) (g := gTg K (.nm 1)) false rfl sc_is_prime.nd (mi_range2 T.z_range (ma_cons me_int (ma_cons (me_v 0) ma_nil))) (blkOk_by (own := [("other", 1)]) rfl) (fun _ _ _ _ _ => (pg_name (i := 1) sc_is_prime.nd rfl (by first | exact Or.inl rfl | exact Or.inr rfl))) (fun _ _ _ _ _ => mts_nil) (fun _ _ _ _ _ => (me_cmp (om_ne hr.units) (me_op om_mod (me_v 0) (me_v 1)) me_int))) ma_nil))))))
theorem ok_is_sum (T : Top P K mg a) (X_is_within : FnM P w K mg base 2 a.f_is_within a.fd_is_within ["thing", "least", "most"] m_is_within) : FnM P w K mg base 3 a.f_is_sum a.fd_is_sum ["prime", "thing"] m_is_sum := by
  have L_is_within : ∀ qs h, m_is_within qs h ≠ .bad → qs.length = 3 := by intro qs h e; unfold m_is_within at e; exact mDef_len e
  unfold m_is_sum
  have z := FnM.of (P := P) (w := w) (mg := mg) (base := base) (k := 2) (body := b_is_sum) true T.F_is_sum sc_is_sum
  exact z (fun cdv A outer s H E hr =>
  (ms_cons (ms_if (mt_w (mw_or (mt_not (mt_val (me_callB cm_isi T.z_isinstance boot_isinstance (ma_cons (me_v 1) (ma_cons (me_ty T.z_tuple) ma_nil))))) (mw_or1 (mt_not (mt_chain om_le om_le me_int (me_callB cm_len T.z_len boot_len (ma_cons (me_v 1) ma_nil)) (me_kint T.c_MOST_WIDTH)))))) (ms_one (ms_ret me_bl)) ms_nil)
  (ms_one (ms_ret (me_and (me_callB (cm_all rfl) T.z_all boot_all (ma_cons (me_lc (t := (.nm 2)) (g := gTg K (.nm 2)) false rfl sc_is_sum.nd (mi_seq (me_v 1)) (blkOk_by (own := [("value", 2)]) rfl) (fun _ _ _ _ _ => (pg_name (i := 2) sc_is_sum.nd rfl (by first | exact Or.inl rfl | exact Or.inr rfl))) (fun _ _ _ _ _ => mts_nil) (fun _ _ _ _ _ => (me_call X_is_within L_is_within (hr.mono (by decide)) T.g_is_within T.F_is_within.kp T.b_is_within LamX.takes0 (ma_cons (me_v 2) (ma_cons me_int (ma_cons (me_op om_subI (me_v 0) me_int) ma_nil)))))) ma_nil)) (me_one (me_callB (cm_any rfl) T.z_any boot_any (ma_cons (me_lc (t := (.nm 2)) (g := gTg K (.nm 2)) false rfl sc_is_sum.nd (mi_seq (me_v 1)) (blkOk_by (own := [("value", 2)]) rfl) (fun _ _ _ _ _ => (pg_name (i := 2) sc_is_sum.nd rfl (by first | exact Or.inl rfl | exact Or.inr rfl))) (fun _ _ _ _ _ => mts_nil) (fun _ _ _ _ _ => (me_cmp (om_ne hr.units) (me_v 2) me_int))) ma_nil))))))))
theorem ok_is_piece (T : Top P K mg a) (X_is_within : FnM P w K mg base 2 a.f_is_within a.fd_is_within ["thing", "least", "most"] m_is_within) (X_is_pair : FnM P w K mg base 1 a.f_is_pair a.fd_is_pair ["thing"] m_is_pair) (X_is_sum : FnM P w K mg base 3 a.f_is_sum a.fd_is_sum ["prime", "thing"] m_is_sum) : FnM P w K mg base 4 a.f_is_piece a.fd_is_piece ["prime", "many", "thing"] m_is_piece := by
  have L_is_within : ∀ qs h, m_is_within qs h ≠ .bad → qs.length = 3 := by intro qs h e; unfold m_is_within at e; exact mDef_len e
  have L_is_pair : ∀ qs h, m_is_pair qs h ≠ .bad → qs.length = 1 := by intro qs h e; unfold m_is_pair at e; exact mDef_len e
  have L_is_sum : ∀ qs h, m_is_sum qs h ≠ .bad → qs.length = 2 := by intro qs h e; unfold m_is_sum at e; exact mDef_len e
  unfold m_is_piece
  have z := FnM.of (P := P) (w := w) (mg := mg) (base := base) (k := 3) (body := b_is_piece) true T.F_is_piece sc_is_piece
  exact z (fun cdv A outer s H E hr =>
  (ms_one (ms_ret (me_and (me_call X_is_pair L_is_pair (hr.mono (by decide)) T.g_is_pair T.F_is_pair.kp T.b_is_pair (takes_of rfl rfl rfl rfl) (ma_cons (me_v 2) ma_nil)) (me_and (me_call X_is_sum L_is_sum (hr.mono (by decide)) T.g_is_sum T.F_is_sum.kp T.b_is_sum (takes_of rfl rfl rfl rfl) (ma_cons (me_v 0) (ma_cons (me_ix (me_v 2) me_int) ma_nil))) (me_and (me_cmp (om_eq hr.units) (me_callB cm_len T.z_len boot_len (ma_cons (me_ix (me_v 2) me_int) ma_nil)) (me_v 1)) (me_one (me_call X_is_within L_is_within (hr.mono (by decide)) T.g_is_within T.F_is_within.kp T.b_is_within (takes_of rfl rfl rfl rfl) (ma_cons (me_ix (me_v 2) me_int) (ma_cons me_int (ma_cons (me_kint T.c_MOST_SIZE) ma_nil)))))))))))
theorem ok_Web___init__ (T : Top P K mg a) (X_is_within : FnM P w K mg base 2 a.f_is_within a.fd_is_within ["thing", "least", "most"] m_is_within) (X_is_prime : FnM P w K mg base 3 a.f_is_prime a.fd_is_prime ["thing"] m_is_prime) (X_is_piece : FnM P w K mg base 4 a.f_is_piece a.fd_is_piece ["prime", "many", "thing"] m_is_piece) : FnM P w K mg base 5 a.f_Web___init__ a.fd_Web___init__ ["self", "prime", "many", "pieces"] m_Web___init__ := by
  have L_is_within : ∀ qs h, m_is_within qs h ≠ .bad → qs.length = 3 := by intro qs h e; unfold m_is_within at e; exact mDef_len e
  have L_is_prime : ∀ qs h, m_is_prime qs h ≠ .bad → qs.length = 1 := by intro qs h e; unfold m_is_prime at e; exact mDef_len e
  have L_is_piece : ∀ qs h, m_is_piece qs h ≠ .bad → qs.length = 3 := by intro qs h e; unfold m_is_piece at e; exact mDef_len e
  unfold m_Web___init__
  have z := FnM.of (P := P) (w := w) (mg := mg) (base := base) (k := 4) (body := b_Web___init__) true T.F_Web___init__ sc_Web___init__
  exact z (fun cdv A outer s H E hr =>
  (ms_cons (ms_if (mt_not (mt_val (me_call X_is_prime L_is_prime (hr.mono (by decide)) T.g_is_prime T.F_is_prime.kp T.b_is_prime (takes_of rfl rfl rfl rfl) (ma_cons (me_v 1) ma_nil)))) (ms_one (X_part.ms_raise rfl T.x1_BadWeb hr (takes_of rfl rfl rfl rfl) (ma_cons me_str ma_nil))) ms_nil)
  (ms_cons (ms_if (mt_not (mt_val (me_call X_is_within L_is_within (hr.mono (by decide)) T.g_is_within T.F_is_within.kp T.b_is_within (takes_of rfl rfl rfl rfl) (ma_cons (me_v 2) (ma_cons me_int (ma_cons (me_kint T.c_MOST_MANY) ma_nil)))))) (ms_one (X_part.ms_raise rfl T.x1_BadWeb hr (takes_of rfl rfl rfl rfl) (ma_cons me_str ma_nil))) ms_nil)
  (ms_cons (ms_if (mt_w (mw_or (mt_not (mt_val (me_callB cm_isi T.z_isinstance boot_isinstance (ma_cons (me_v 3) (ma_cons (me_ty T.z_tuple) ma_nil))))) (mw_or1 (mt_cmp om_gt (me_callB cm_len T.z_len boot_len (ma_cons (me_v 3) ma_nil)) (me_kint T.c_MOST_PIECES))))) (ms_one (X_part.ms_raise rfl T.x1_BadWeb hr (takes_of rfl rfl rfl rfl) (ma_cons me_str ma_nil))) ms_nil)
  (ms_cons (ms_for (t := (.tp [(.nm 4), (.nm 5)])) (passes_of rfl) rfl (mi_enum2 T.z_enumerate (ma_cons (me_v 3) ma_nil)) (pg_tup rfl (pgs_cons (pg_name (i := 4) sc_Web___init__.nd rfl (by first | exact Or.inl rfl | exact Or.inr rfl)) (pgs_cons (pg_name (i := 5) sc_Web___init__.nd rfl (by first | exact Or.inl rfl | exact Or.inr rfl)) pgs_nil))) (ms_one (ms_if (mt_not (mt_val (me_call X_is_piece L_is_piece (hr.mono (by decide)) T.g_is_piece T.F_is_piece.kp T.b_is_piece (takes_of rfl rfl rfl rfl) (ma_cons (me_v 1) (ma_cons (me_v 2) (ma_cons (me_v 5) ma_nil)))))) (ms_one (X_part.ms_raise rfl T.x1_BadWeb hr (takes_of rfl rfl rfl rfl) (ma_cons (me_v 4) ma_nil))) ms_nil)))
  (ms_cons (ms_seta T.k_Web T.cl_Web T.no_Web_prime (me_v 0) (me_v 1))
  (ms_cons (ms_seta T.k_Web T.cl_Web T.no_Web_many (me_v 0) (me_v 2))
  (ms_one (ms_seta T.k_Web T.cl_Web T.no_Web_pieces (me_v 0) (me_v 3))))))))))
theorem ok_Web___eq__ (T : Top P K mg a) : FnM P w K mg base 1 a.f_Web___eq__ a.fd_Web___eq__ ["self", "other"] m_Web___eq__ := by
  unfold m_Web___eq__
  have z := FnM.of (P := P) (w := w) (mg := mg) (base := base) (k := 0) (body := b_Web___eq__) true T.F_Web___eq__ sc_Web___eq__
  exact z (fun cdv A outer s H E hr =>
  (ms_cons (ms_if (mt_not (mt_val (me_callB (cm_isC T.k_Web T.is_Web) T.z_isinstance boot_isinstance (ma_cons (me_v 1) (ma_cons (me_gl T.k_Web) ma_nil))))) (ms_one (ms_ret me_bl)) ms_nil)
  (ms_one (ms_ret (me_cmp (om_eq hr.units) (me_tup (ma_cons (me_attr T.k_Web T.cl_Web T.no_Web_prime (me_v 0)) (ma_cons (me_attr T.k_Web T.cl_Web T.no_Web_many (me_v 0)) (ma_cons (me_attr T.k_Web T.cl_Web T.no_Web_pieces (me_v 0)) ma_nil)))) (me_tup (ma_cons (me_attr T.k_Web T.cl_Web T.no_Web_prime (me_v 1)) (ma_cons (me_attr T.k_Web T.cl_Web T.no_Web_many (me_v 1)) (ma_cons (me_attr T.k_Web T.cl_Web T.no_Web_pieces (me_v 1)) ma_nil)))))))))
theorem ok_number_in (T : Top P K mg a) : FnM P w K mg base 1 a.f_number_in a.fd_number_in ["word"] m_number_in := by
  unfold m_number_in
  have z := FnM.of (P := P) (w := w) (mg := mg) (base := base) (k := 0) (body := b_number_in) true T.F_number_in sc_number_in
  exact z (fun cdv A outer s H E hr =>
  (ms_cons (ms_if (mt_w (mw_or (mt_not (mt_chain om_le om_le me_int (me_callB cm_len T.z_len boot_len (ma_cons (me_v 0) ma_nil)) (me_kint T.c_MOST_FIGURES))) (mw_or1 (mt_not (mt_val (me_callB (cm_all rfl) T.z_all boot_all (ma_cons (me_lc (t := (.nm 1)) (g := gTg K (.nm 1)) false rfl sc_number_in.nd (mi_seq (me_v 0)) (blkOk_by (own := [("sign", 1)]) rfl) (fun _ _ _ _ _ => (pg_name (i := 1) sc_number_in.nd rfl (by first | exact Or.inl rfl | exact Or.inr rfl))) (fun _ _ _ _ _ => mts_nil) (fun _ _ _ _ _ => (me_cmp (om_in2 hr.units65) (me_v 1) (me_kstr T.c_FIGURES)))) ma_nil))))))) (ms_one (ms_ret me_non)) ms_nil)
  (ms_one (ms_ret (me_if (mt_w (mw_and (mt_cmp om_gt (me_callB cm_len T.z_len boot_len (ma_cons (me_v 0) ma_nil)) me_int) (mw_and1 (mt_cmp (om_eq hr.units) (me_ix (me_v 0) me_int) me_str)))) me_non (me_callTy cm_int T.z_int boot_int (ma_cons (me_v 0) ma_nil)))))))
theorem ok_numbers_in (T : Top P K mg a) (X_number_in : FnM P w K mg base 1 a.f_number_in a.fd_number_in ["word"] m_number_in) : FnM P w K mg base 2 a.f_numbers_in a.fd_numbers_in ["word"] m_numbers_in := by
  have L_number_in : ∀ qs h, m_number_in qs h ≠ .bad → qs.length = 1 := by intro qs h e; unfold m_number_in at e; exact mDef_len e
  unfold m_numbers_in
  have z := FnM.of (P := P) (w := w) (mg := mg) (base := base) (k := 1) (body := b_numbers_in) true T.F_numbers_in sc_numbers_in
  exact z (fun cdv A outer s H E hr =>
  (ms_cons (ms_set 1 (me_callTy cm_tuple T.z_tuple boot_tuple (ma_cons (me_lc (t := (.nm 2)) (g := gTg K (.nm 2)) false rfl sc_numbers_in.nd (mi_seq (me_split false (me_v 0) (ma_cons me_str ma_nil))) (blkOk_by (own := [("one", 2)]) rfl) (fun _ _ _ _ _ => (pg_name (i := 2) sc_numbers_in.nd rfl (by first | exact Or.inl rfl | exact Or.inr rfl))) (fun _ _ _ _ _ => mts_nil) (fun _ _ _ _ _ => (me_call X_number_in L_number_in (hr.mono (by decide)) T.g_number_in T.F_number_in.kp T.b_number_in LamX.takes0 (ma_cons (me_v 2) ma_nil)))) ma_nil)) sc_numbers_in.nd)
  (ms_one (ms_ret (me_if (mt_cmp (om_in2 hr.units65) me_non (me_v 1)) me_non (me_v 1))))))
theorem ok_web_text (T : Top P K mg a) : FnM P w K mg base 1 a.f_web_text a.fd_web_text ["web"] m_web_text := by
  unfold m_web_text
  have z := FnM.of (P := P) (w := w) (mg := mg) (base := base) (k := 0) (body := b_web_text) true T.F_web_text sc_web_text
  exact z (fun cdv A outer s H E hr =>
  (ms_cons (ms_set 1 (me_lst true (ma_cons (me_op (om_add false) (me_op (om_add false) (me_op (om_add false) me_str (me_callTy cm_str T.z_str boot_str (ma_cons (me_attr T.k_Web T.cl_Web T.no_Web_prime (me_v 0)) ma_nil))) me_str) (me_callTy cm_str T.z_str boot_str (ma_cons (me_attr T.k_Web T.cl_Web T.no_Web_many (me_v 0)) ma_nil))) ma_nil)) sc_web_text.nd)
  (ms_cons (ms_for (t := (.tp [(.nm 2), (.nm 3)])) (passes_of rfl) rfl (mi_seq (me_attr T.k_Web T.cl_Web T.no_Web_pieces (me_v 0))) (pg_tup rfl (pgs_cons (pg_name (i := 2) sc_web_text.nd rfl (by first | exact Or.inl rfl | exact Or.inr rfl)) (pgs_cons (pg_name (i := 3) sc_web_text.nd rfl (by first | exact Or.inl rfl | exact Or.inr rfl)) pgs_nil))) (ms_one (ms_expr (me_append (me_v 1) (ma_cons (me_op (om_add false) (me_op (om_add false) (me_op (om_add false) me_str (me_callTy cm_str T.z_str boot_str (ma_cons (me_v 3) ma_nil))) me_str) (me_join me_str (ma_cons (me_lc (t := (.nm 5)) (g := gTg K (.nm 5)) false rfl sc_web_text.nd (mi_seq (me_v 2)) (blkOk_by (own := [("value", 5)]) rfl) (fun _ _ _ _ _ => (pg_name (i := 5) sc_web_text.nd rfl (by first | exact Or.inl rfl | exact Or.inr rfl))) (fun _ _ _ _ _ => mts_nil) (fun _ _ _ _ _ => (me_callTy cm_str T.z_str boot_str (ma_cons (me_v 5) ma_nil)))) ma_nil))) ma_nil)))))
  (ms_one (ms_ret (me_join me_str (ma_cons (me_lc (t := (.nm 4)) (g := gTg K (.nm 4)) false rfl sc_web_text.nd (mi_seq (me_v 1)) (blkOk_by (own := [("line", 4)]) rfl) (fun _ _ _ _ _ => (pg_name (i := 4) sc_web_text.nd rfl (by first | exact Or.inl rfl | exact Or.inr rfl))) (fun _ _ _ _ _ => mts_nil) (fun _ _ _ _ _ => (me_op (om_add false) (me_v 4) me_str))) ma_nil)))))))
theorem ok_numbers_behind (T : Top P K mg a) (X_number_in : FnM P w K mg base 1 a.f_number_in a.fd_number_in ["word"] m_number_in) (X_numbers_in : FnM P w K mg base 2 a.f_numbers_in a.fd_numbers_in ["word"] m_numbers_in) : FnM P w K mg base 3 a.f_numbers_behind a.fd_numbers_behind ["line", "word", "many"] m_numbers_behind := by
  have L_number_in : ∀ qs h, m_number_in qs h ≠ .bad → qs.length = 1 := by intro qs h e; unfold m_number_in at e; exact mDef_len e
  have L_numbers_in : ∀ qs h, m_numbers_in qs h ≠ .bad → qs.length = 1 := by intro qs h e; unfold m_numbers_in at e; exact mDef_len e
  unfold m_numbers_behind
  have z := FnM.of (P := P) (w := w) (mg := mg) (base := base) (k := 2) (body := b_numbers_behind) true T.F_numbers_behind sc_numbers_behind
  exact z (fun cdv A outer s H E hr =>
  (ms_cons (ms_set 3 (me_split false (me_v 0) (ma_cons me_str ma_nil)) sc_numbers_behind.nd)
  (ms_cons (ms_if (mt_w (mw_or (mt_cmp (om_ne hr.units) (me_callB cm_len T.z_len boot_len (ma_cons (me_v 3) ma_nil)) me_int) (mw_or1 (mt_cmp (om_ne hr.units) (me_ix (me_v 3) me_int) (me_v 1))))) (ms_one (ms_ret me_non)) ms_nil)
  (ms_cons (ms_set 4 (me_lst false (ma_cons (me_call X_number_in L_number_in (hr.mono (by decide)) T.g_number_in T.F_number_in.kp T.b_number_in (takes_of rfl rfl rfl rfl) (ma_cons (me_ix (me_v 3) me_int) ma_nil)) (ma_cons (me_if (mt_cmp (om_eq hr.units) (me_v 2) me_int) (me_call X_number_in L_number_in (hr.mono (by decide)) T.g_number_in T.F_number_in.kp T.b_number_in (takes_of rfl rfl rfl rfl) (ma_cons (me_ix (me_v 3) me_int) ma_nil)) (me_call X_numbers_in L_numbers_in (hr.mono (by decide)) T.g_numbers_in T.F_numbers_in.kp T.b_numbers_in (takes_of rfl rfl rfl rfl) (ma_cons (me_ix (me_v 3) me_int) ma_nil))) ma_nil))) sc_numbers_behind.nd)
  (ms_one (ms_ret (me_if (mt_cmp (om_in2 hr.units65) me_non (me_v 4)) me_non (me_v 4))))))))
theorem ok_lines_in (T : Top P K mg a) : FnM P w K mg base 1 a.f_lines_in a.fd_lines_in ["text"] m_lines_in := by
  unfold m_lines_in
  have z := FnM.of (P := P) (w := w) (mg := mg) (base := base) (k := 0) (body := b_lines_in) true T.F_lines_in sc_lines_in
  exact z (fun cdv A outer s H E hr =>
  (ms_cons (ms_if (mt_not (mt_val (me_callB cm_isi T.z_isinstance boot_isinstance (ma_cons (me_v 0) (ma_cons (me_ty T.z_str) ma_nil))))) (ms_one (X_line.ms_raise rfl T.x1_BadText hr (takes_of rfl rfl rfl rfl) (ma_cons me_int ma_nil))) ms_nil)
  (ms_cons (ms_set 1 (me_split false (me_v 0) (ma_cons me_str ma_nil)) sc_lines_in.nd)
  (ms_one (ms_ret (me_tup (ma_cons (me_sl false (me_v 1) mp_none (mp_some (me_un um_neg me_int))) (ma_cons (me_ix (me_v 1) (me_un um_neg me_int)) ma_nil))))))))
theorem ok_read_web (T : Top P K mg a) (X_Web___init__ : FnM P w K mg base 5 a.f_Web___init__ a.fd_Web___init__ ["self", "prime", "many", "pieces"] m_Web___init__) (X_numbers_behind : FnM P w K mg base 3 a.f_numbers_behind a.fd_numbers_behind ["line", "word", "many"] m_numbers_behind) (X_lines_in : FnM P w K mg base 1 a.f_lines_in a.fd_lines_in ["text"] m_lines_in) : FnM P w K mg base 7 a.f_read_web a.fd_read_web ["text"] m_read_web := by
  have L_Web___init__ : ∀ qs h, m_Web___init__ qs h ≠ .bad → qs.length = 4 := by intro qs h e; unfold m_Web___init__ at e; exact mDef_len e
  have L_numbers_behind : ∀ qs h, m_numbers_behind qs h ≠ .bad → qs.length = 3 := by intro qs h e; unfold m_numbers_behind at e; exact mDef_len e
  have L_lines_in : ∀ qs h, m_lines_in qs h ≠ .bad → qs.length = 1 := by intro qs h e; unfold m_lines_in at e; exact mDef_len e
  unfold m_read_web
  have z := FnM.of (P := P) (w := w) (mg := mg) (base := base) (k := 6) (body := b_read_web) true T.F_read_web sc_read_web
  exact z (fun cdv A outer s H E hr =>
  (ms_cons (ms_asg (t := (.tp [(.nm 1), (.nm 2)])) (me_call X_lines_in L_lines_in (hr.mono (by decide)) T.g_lines_in T.F_lines_in.kp T.b_lines_in (takes_of rfl rfl rfl rfl) (ma_cons (me_v 0) ma_nil)) (pg_tup rfl (pgs_cons (pg_name (i := 1) sc_read_web.nd rfl (by first | exact Or.inl rfl | exact Or.inr rfl)) (pgs_cons (pg_name (i := 2) sc_read_web.nd rfl (by first | exact Or.inl rfl | exact Or.inr rfl)) pgs_nil))))
  (ms_cons (ms_par (i := 3) (j := 4) rfl sc_read_web.nd (ma_cons me_non (ma_cons (me_lst true ma_nil) ma_nil)))
  (ms_cons (ms_for (t := (.tp [(.nm 5), (.nm 6)])) (passes_of rfl) rfl (mi_enum2 T.z_enumerate (ma_cons (me_v 1) ma_nil)) (pg_tup rfl (pgs_cons (pg_name (i := 5) sc_read_web.nd rfl (by first | exact Or.inl rfl | exact Or.inr rfl)) (pgs_cons (pg_name (i := 6) sc_read_web.nd rfl (by first | exact Or.inl rfl | exact Or.inr rfl)) pgs_nil))) (ms_cons (ms_set 7 (me_if (mt_cmp (om_eq hr.units) (me_v 5) me_int) (me_call X_numbers_behind L_numbers_behind (hr.mono (by decide)) T.g_numbers_behind T.F_numbers_behind.kp T.b_numbers_behind (takes_of rfl rfl rfl rfl) (ma_cons (me_v 6) (ma_cons me_str (ma_cons me_int ma_nil)))) (me_call X_numbers_behind L_numbers_behind (hr.mono (by decide)) T.g_numbers_behind T.F_numbers_behind.kp T.b_numbers_behind (takes_of rfl rfl rfl rfl) (ma_cons (me_v 6) (ma_cons me_str (ma_cons me_int ma_nil))))) sc_read_web.nd)
  (ms_cons (ms_if (mt_cmp om_isN (me_v 7) me_non) (ms_one (X_line.ms_raise rfl T.x1_BadText hr (takes_of rfl rfl rfl rfl) (ma_cons (me_op (om_add false) (me_v 5) me_int) ma_nil))) ms_nil)
  (ms_one (ms_if (mt_cmp (om_eq hr.units) (me_v 5) me_int) (ms_one (ms_set 3 (me_v 7) sc_read_web.nd)) (ms_one (ms_expr (me_append (me_v 4) (ma_cons (me_tup (ma_cons (me_ix (me_v 7) me_int) (ma_cons (me_ix (me_v 7) me_int) ma_nil))) ma_nil)))))))))
  (ms_cons (ms_if (mt_w (mw_or (mt_cmp (om_ne hr.units) (me_v 2) me_str) (mw_or1 (mt_cmp om_isN (me_v 3) me_non)))) (ms_one (X_line.ms_raise rfl T.x1_BadText hr (takes_of rfl rfl rfl rfl) (ma_cons (me_op (om_add false) (me_callB cm_len T.z_len boot_len (ma_cons (me_v 1) ma_nil)) me_int) ma_nil))) ms_nil)
  (ms_one (ms_ret (me_new T.mk_Web X_Web___init__ L_Web___init__ (hr.mono (by decide)) T.k_Web T.b_Web___init__ (takes_of rfl rfl rfl rfl) (ma_cons (me_ix (me_v 3) me_int) (ma_cons (me_ix (me_v 3) me_int) (ma_cons (me_callTy cm_tuple T.z_tuple boot_tuple (ma_cons (me_v 4) ma_nil)) ma_nil)))))))))))
theorem ok__law_mixed (T : Top P K mg a) : FnM P w K mg base 1 a.f__law_mixed a.fd__law_mixed ["_law_cell", "_law_turn"] m__law_mixed := by
  unfold m__law_mixed
  have z := FnM.of (P := P) (w := w) (mg := mg) (base := base) (k := 0) (body := b__law_mixed) true T.F__law_mixed sc__law_mixed
  exact z (fun cdv A outer s H E hr =>
  (ms_cons (ms_set 2 (me_op om_mod (me_op (om_mul2 false) (me_op (om_add false) (me_op (om_add false) (me_op om_mod (me_callTy cm_int T.z_int boot_int (ma_cons (me_v 0) ma_nil)) me_int) (me_op (om_mul2 false) me_int (me_v 1))) me_int) me_int) me_int) sc__law_mixed.nd)
  (ms_cons (ms_set 2 (me_op om_mod (me_op (om_mul2 false) (me_v 2) (me_op (om_add false) (me_op om_div (me_v 2) me_int) me_int)) me_int) sc__law_mixed.nd)
  (ms_one (ms_ret (me_op om_div (me_op om_mod (me_op (om_mul2 false) (me_v 2) (me_op (om_add false) (me_op om_div (me_v 2) me_int) me_int)) me_int) me_int))))))
theorem ok__law_bag (T : Top P K mg a) : FnM P w K mg base 1 a.f__law_bag a.fd__law_bag ["_law_script"] m__law_bag := by
  unfold m__law_bag
  have z := FnM.of (P := P) (w := w) (mg := mg) (base := base) (k := 0) (body := b__law_bag) false T.F__law_bag sc__law_bag
  exact z (fun cdv A outer s H E hr =>
  (ms_one (ms_ret (me_lst true (ma_cons (me_lc (t := (.nm 1)) (g := gTg K (.nm 1)) false rfl sc__law_bag.nd (mi_seq (me_sl false (me_v 0) mp_none (mp_some me_int))) (blkOk_by (own := [("_law_cell", 1)]) rfl) (fun _ _ _ _ _ => (pg_name (i := 1) sc__law_bag.nd rfl (by first | exact Or.inl rfl | exact Or.inr rfl))) (fun _ _ _ _ _ => mts_nil) (fun _ _ _ _ _ => (me_callTy cm_int T.z_int boot_int (ma_cons (me_v 1) ma_nil)))) (ma_cons me_int (ma_cons me_int (ma_cons me_int ma_nil))))))))
theorem ok__law_draw (T : Top P K mg a) (X__law_mixed : FnM P w K mg base 1 a.f__law_mixed a.fd__law_mixed ["_law_cell", "_law_turn"] m__law_mixed) : FnM P w K mg base 2 a.f__law_draw a.fd__law_draw ["_law_bag_here", "_law_many"] m__law_draw := by
  have L__law_mixed : ∀ qs h, m__law_mixed qs h ≠ .bad → qs.length = 2 := by intro qs h e; unfold m__law_mixed at e; exact mDef_len e
  unfold m__law_draw
  have z := FnM.of (P := P) (w := w) (mg := mg) (base := base) (k := 1) (body := b__law_draw) true T.F__law_draw sc__law_draw
  exact z (fun cdv A outer s H E hr =>
  (ms_cons (ms_seti (me_op (om_add false) (me_ix (me_v 0) me_int) me_int) (me_v 0) me_int)
  (ms_cons (ms_if (mt_cmp om_gt (me_ix (me_v 0) me_int) me_int) (ms_cons (ms_set 2 (me_op om_mod (me_callTy cm_int T.z_int boot_int (ma_cons (me_ix (me_v 0) me_int) ma_nil)) (me_v 1)) sc__law_draw.nd)
  (ms_cons (ms_seti (me_op om_div (me_ix (me_v 0) me_int) (me_v 1)) (me_v 0) me_int)
  (ms_one (ms_ret (me_v 2))))) ms_nil)
  (ms_cons (ms_set 3 (me_ix (me_v 0) me_int) sc__law_draw.nd)
  (ms_cons (ms_if (mt_cmp (om_eq hr.units) (me_callB cm_len T.z_len boot_len (ma_cons (me_v 3) ma_nil)) me_int) (ms_one (ms_ret (me_op om_mod (me_call X__law_mixed L__law_mixed (hr.mono (by decide)) T.g__law_mixed T.F__law_mixed.kp T.b__law_mixed (takes_of rfl rfl rfl rfl) (ma_cons me_int (ma_cons (me_ix (me_v 0) me_int) ma_nil))) (me_v 1)))) ms_nil)
  (ms_cons (ms_set 4 (me_ix (me_v 0) me_int) sc__law_draw.nd)
  (ms_cons (ms_seti (me_op (om_add false) (me_v 4) me_int) (me_v 0) me_int)
  (ms_cons (ms_set 5 (me_ix (me_v 3) (me_op om_mod (me_callTy cm_int T.z_int boot_int (ma_cons (me_v 4) ma_nil)) (me_callB cm_len T.z_len boot_len (ma_cons (me_v 3) ma_nil)))) sc__law_draw.nd)
  (ms_cons (ms_if (mt_w (mw_and (mt_cmp om_lt (me_v 4) (me_callB cm_len T.z_len boot_len (ma_cons (me_v 3) ma_nil))) (mw_and1 (mt_cmp om_ge (me_callB cm_abs T.z_abs boot_abs (ma_cons (me_v 5) ma_nil)) (me_op om_pow me_int me_int))))) (ms_cons (ms_seti (me_op om_div (me_callB cm_abs T.z_abs boot_abs (ma_cons (me_v 5) ma_nil)) (me_v 1)) (me_v 0) me_int)
  (ms_one (ms_ret (me_op om_mod (me_callTy cm_int T.z_int boot_int (ma_cons (me_callB cm_abs T.z_abs boot_abs (ma_cons (me_v 5) ma_nil)) ma_nil)) (me_v 1))))) ms_nil)
  (ms_one (ms_ret (me_op om_mod (me_call X__law_mixed L__law_mixed (hr.mono (by decide)) T.g__law_mixed T.F__law_mixed.kp T.b__law_mixed (takes_of rfl rfl rfl rfl) (ma_cons (me_v 5) (ma_cons (me_ix (me_v 0) me_int) ma_nil))) (me_v 1)))))))))))))
theorem ok__law_primes (T : Top P K mg a) : FnM P w K mg base 1 a.f__law_primes a.fd__law_primes [] m__law_primes := by
  unfold m__law_primes
  have z := FnM.of (P := P) (w := w) (mg := mg) (base := base) (k := 0) (body := b__law_primes) true T.F__law_primes sc__law_primes
  exact z (fun cdv A outer s H E hr =>
  (ms_one (ms_ret (me_lc (t := (.nm 0)) (g := gTg K (.nm 0)) false rfl sc__law_primes.nd (mi_range2 T.z_range (ma_cons me_int (ma_cons me_int ma_nil))) (blkOk_by (own := [("_law_p", 0)]) rfl) (fun _ _ _ _ _ => (pg_name (i := 0) sc__law_primes.nd rfl (by first | exact Or.inl rfl | exact Or.inr rfl))) (fun _ _ _ _ _ => (mts_one (mt_cmp (om_eq hr.units) (me_callB cm_len T.z_len boot_len (ma_cons (me_lc (t := (.nm 1)) (g := gTg K (.nm 1)) false rfl sc__law_primes.nd (mi_range2 T.z_range (ma_cons me_int (ma_cons me_int ma_nil))) (blkOk_by (own := [("_law_q", 1)]) rfl) (fun _ _ _ _ _ => (pg_name (i := 1) sc__law_primes.nd rfl (by first | exact Or.inl rfl | exact Or.inr rfl))) (fun _ _ _ _ _ => (mts_one (mt_w (mw_and (mt_cmp om_lt (me_v 1) (me_v 0)) (mw_and1 (mt_cmp (om_eq hr.units) (me_op om_subI (me_v 0) (me_op (om_mul2 false) (me_v 1) (me_op om_div (me_v 0) (me_v 1)))) me_int)))))) (fun _ _ _ _ _ => (me_v 1))) ma_nil)) me_int))) (fun _ _ _ _ _ => (me_v 0))))))
theorem ok__law_drawn (T : Top P K mg a) (X__law_draw : FnM P w K mg base 2 a.f__law_draw a.fd__law_draw ["_law_bag_here", "_law_many"] m__law_draw) (X__law_primes : FnM P w K mg base 1 a.f__law_primes a.fd__law_primes [] m__law_primes) : FnM P w K mg base 3 a.f__law_drawn a.fd__law_drawn ["_law_bag_here"] m__law_drawn := by
  have L__law_draw : ∀ qs h, m__law_draw qs h ≠ .bad → qs.length = 2 := by intro qs h e; unfold m__law_draw at e; exact mDef_len e
  have L__law_primes : ∀ qs h, m__law_primes qs h ≠ .bad → qs.length = 0 := by intro qs h e; unfold m__law_primes at e; exact mDef_len e
  unfold m__law_drawn
  have z := FnM.of (P := P) (w := w) (mg := mg) (base := base) (k := 2) (body := b__law_drawn) true T.F__law_drawn sc__law_drawn
  exact z (fun cdv A outer s H E hr =>
  (ms_cons (ms_set 1 (me_call0 X__law_primes L__law_primes (hr.mono (by decide)) T.g__law_primes T.F__law_primes.kp T.b__law_primes (takes_of rfl rfl rfl rfl)) sc__law_drawn.nd)
  (ms_cons (ms_set 2 (me_ix (me_v 1) (me_call X__law_draw L__law_draw (hr.mono (by decide)) T.g__law_draw T.F__law_draw.kp T.b__law_draw (takes_of rfl rfl rfl rfl) (ma_cons (me_v 0) (ma_cons (me_callB cm_len T.z_len boot_len (ma_cons (me_v 1) ma_nil)) ma_nil)))) sc__law_drawn.nd)
  (ms_cons (ms_set 3 (me_op (om_add false) me_int (me_call X__law_draw L__law_draw (hr.mono (by decide)) T.g__law_draw T.F__law_draw.kp T.b__law_draw (takes_of rfl rfl rfl rfl) (ma_cons (me_v 0) (ma_cons (me_ix (me_lst false (ma_cons me_int (ma_cons me_int ma_nil))) (me_call X__law_draw L__law_draw (hr.mono (by decide)) T.g__law_draw T.F__law_draw.kp T.b__law_draw (takes_of rfl rfl rfl rfl) (ma_cons (me_v 0) (ma_cons me_int ma_nil)))) ma_nil)))) sc__law_drawn.nd)
  (ms_cons (ms_set 4 (me_lst true ma_nil) sc__law_drawn.nd)
  (ms_cons (ms_for (t := (.nm 5)) (passes_of rfl) rfl (mi_range1 T.z_range (ma_cons (me_call X__law_draw L__law_draw (hr.mono (by decide)) T.g__law_draw T.F__law_draw.kp T.b__law_draw (takes_of rfl rfl rfl rfl) (ma_cons (me_v 0) (ma_cons (me_ix (me_lst false (ma_cons me_int (ma_cons me_int (ma_cons me_int ma_nil)))) (me_call X__law_draw L__law_draw (hr.mono (by decide)) T.g__law_draw T.F__law_draw.kp T.b__law_draw (takes_of rfl rfl rfl rfl) (ma_cons (me_v 0) (ma_cons me_int ma_nil)))) ma_nil))) ma_nil)) (pg_name (i := 5) sc__law_drawn.nd rfl (by first | exact Or.inl rfl | exact Or.inr rfl)) (ms_cons (ms_lc (t := (.nm 7)) (g := gTg K (.nm 7)) true 6 rfl sc__law_drawn.nd rfl (mi_range1 T.z_range (ma_cons (me_v 3) ma_nil)) (blkOk_by (own := [("_law_place", 7)]) rfl) (fun _ _ _ _ _ => (pg_name (i := 7) sc__law_drawn.nd rfl (by first | exact Or.inl rfl | exact Or.inr rfl))) (fun _ _ _ _ _ => mts_nil) (fun _ _ _ _ _ => (me_call X__law_draw L__law_draw (hr.mono (by decide)) T.g__law_draw T.F__law_draw.kp T.b__law_draw LamX.takes0 (ma_cons (me_v 0) (ma_cons (me_v 2) ma_nil)))))
  (ms_cons (ms_seti (me_op (om_add false) me_int (me_call X__law_draw L__law_draw (hr.mono (by decide)) T.g__law_draw T.F__law_draw.kp T.b__law_draw (takes_of rfl rfl rfl rfl) (ma_cons (me_v 0) (ma_cons (me_op om_subI (me_v 2) me_int) ma_nil)))) (me_v 6) (me_call X__law_draw L__law_draw (hr.mono (by decide)) T.g__law_draw T.F__law_draw.kp T.b__law_draw (takes_of rfl rfl rfl rfl) (ma_cons (me_v 0) (ma_cons (me_v 3) ma_nil))))
  (ms_one (ms_expr (me_append (me_v 4) (ma_cons (me_tup (ma_cons (me_callTy cm_tuple T.z_tuple boot_tuple (ma_cons (me_v 6) ma_nil)) (ma_cons (me_op (om_add false) me_int (me_call X__law_draw L__law_draw (hr.mono (by decide)) T.g__law_draw T.F__law_draw.kp T.b__law_draw (takes_of rfl rfl rfl rfl) (ma_cons (me_v 0) (ma_cons (me_ix (me_lst false (ma_cons me_int (ma_cons (me_op om_pow me_int me_int) ma_nil))) (me_call X__law_draw L__law_draw (hr.mono (by decide)) T.g__law_draw T.F__law_draw.kp T.b__law_draw (takes_of rfl rfl rfl rfl) (ma_cons (me_v 0) (ma_cons me_int ma_nil)))) ma_nil)))) ma_nil))) ma_nil)))))))
  (ms_one (ms_ret (me_tup (ma_cons (me_v 2) (ma_cons (me_v 3) (ma_cons (me_callTy cm_tuple T.z_tuple boot_tuple (ma_cons (me_v 4) ma_nil)) ma_nil))))))))))))
theorem ok__law_text (T : Top P K mg a) : FnM P w K mg base 1 a.f__law_text a.fd__law_text ["_law_web"] m__law_text := by
  unfold m__law_text
  have z := FnM.of (P := P) (w := w) (mg := mg) (base := base) (k := 0) (body := b__law_text) true T.F__law_text sc__law_text
  exact z (fun cdv A outer s H E hr =>
  (ms_cons (ms_set 1 (me_lst true (ma_cons (me_join me_str (ma_cons (me_lst false (ma_cons me_str (ma_cons (me_callTy cm_str T.z_str boot_str (ma_cons (me_ix (me_v 0) me_int) ma_nil)) (ma_cons (me_callTy cm_str T.z_str boot_str (ma_cons (me_ix (me_v 0) me_int) ma_nil)) ma_nil)))) ma_nil)) ma_nil)) sc__law_text.nd)
  (ms_cons (ms_for (t := (.tp [(.nm 2), (.nm 3)])) (passes_of rfl) rfl (mi_seq (me_ix (me_v 0) me_int)) (pg_tup rfl (pgs_cons (pg_name (i := 2) sc__law_text.nd rfl (by first | exact Or.inl rfl | exact Or.inr rfl)) (pgs_cons (pg_name (i := 3) sc__law_text.nd rfl (by first | exact Or.inl rfl | exact Or.inr rfl)) pgs_nil))) (ms_one (ms_expr (me_append (me_v 1) (ma_cons (me_op (om_add false) (me_op (om_add false) (me_op (om_add false) me_str (me_callTy cm_str T.z_str boot_str (ma_cons (me_v 3) ma_nil))) me_str) (me_join me_str (ma_cons (me_lc (t := (.nm 5)) (g := gTg K (.nm 5)) false rfl sc__law_text.nd (mi_seq (me_v 2)) (blkOk_by (own := [("_law_value", 5)]) rfl) (fun _ _ _ _ _ => (pg_name (i := 5) sc__law_text.nd rfl (by first | exact Or.inl rfl | exact Or.inr rfl))) (fun _ _ _ _ _ => mts_nil) (fun _ _ _ _ _ => (me_callTy cm_str T.z_str boot_str (ma_cons (me_v 5) ma_nil)))) ma_nil))) ma_nil)))))
  (ms_one (ms_ret (me_join me_str (ma_cons (me_lc (t := (.nm 4)) (g := gTg K (.nm 4)) false rfl sc__law_text.nd (mi_seq (me_v 1)) (blkOk_by (own := [("_law_line_here", 4)]) rfl) (fun _ _ _ _ _ => (pg_name (i := 4) sc__law_text.nd rfl (by first | exact Or.inl rfl | exact Or.inr rfl))) (fun _ _ _ _ _ => mts_nil) (fun _ _ _ _ _ => (me_op (om_add false) (me_v 4) me_str))) ma_nil)))))))
theorem ok__law_number (T : Top P K mg a) : FnM P w K mg base 1 a.f__law_number a.fd__law_number ["_law_word"] m__law_number := by
  unfold m__law_number
  have z := FnM.of (P := P) (w := w) (mg := mg) (base := base) (k := 0) (body := b__law_number) true T.F__law_number sc__law_number
  exact z (fun cdv A outer s H E hr =>
  (ms_cons (ms_if (mt_w (mw_or (mt_not (mt_chain om_le om_le me_int (me_callB cm_len T.z_len boot_len (ma_cons (me_v 0) ma_nil)) me_int)) (mw_or1 (mt_not (mt_val (me_callB (cm_all rfl) T.z_all boot_all (ma_cons (me_lc (t := (.nm 1)) (g := gTg K (.nm 1)) false rfl sc__law_number.nd (mi_seq (me_v 0)) (blkOk_by (own := [("_law_sign", 1)]) rfl) (fun _ _ _ _ _ => (pg_name (i := 1) sc__law_number.nd rfl (by first | exact Or.inl rfl | exact Or.inr rfl))) (fun _ _ _ _ _ => mts_nil) (fun _ _ _ _ _ => (me_cmp (om_in2 hr.units65) (me_v 1) me_str))) ma_nil))))))) (ms_one (ms_ret me_non)) ms_nil)
  (ms_cons (ms_if (mt_w (mw_and (mt_cmp (om_eq hr.units) (me_ix (me_v 0) me_int) me_str) (mw_and1 (mt_cmp om_gt (me_callB cm_len T.z_len boot_len (ma_cons (me_v 0) ma_nil)) me_int)))) (ms_one (ms_ret me_non)) ms_nil)
  (ms_one (ms_ret (me_callTy cm_int T.z_int boot_int (ma_cons (me_v 0) ma_nil)))))))
theorem ok__law_line (T : Top P K mg a) (X__law_number : FnM P w K mg base 1 a.f__law_number a.fd__law_number ["_law_word"] m__law_number) : FnM P w K mg base 2 a.f__law_line a.fd__law_line ["_law_line_here", "_law_at"] m__law_line := by
  have L__law_number : ∀ qs h, m__law_number qs h ≠ .bad → qs.length = 1 := by intro qs h e; unfold m__law_number at e; exact mDef_len e
  unfold m__law_line
  have z := FnM.of (P := P) (w := w) (mg := mg) (base := base) (k := 1) (body := b__law_line) true T.F__law_line sc__law_line
  exact z (fun cdv A outer s H E hr =>
  (ms_cons (ms_set 2 (me_split false (me_v 0) (ma_cons me_str ma_nil)) sc__law_line.nd)
  (ms_cons (ms_if (mt_w (mw_or (mt_cmp (om_ne hr.units) (me_callB cm_len T.z_len boot_len (ma_cons (me_v 2) ma_nil)) me_int) (mw_or1 (mt_cmp (om_ne hr.units) (me_ix (me_v 2) me_int) (me_ix (me_lst false (ma_cons me_str (ma_cons me_str ma_nil))) (me_callTy cm_int T.z_int boot_int (ma_cons (me_cmp (om_eq hr.units) (me_v 1) me_int) ma_nil))))))) (ms_one (ms_ret me_non)) ms_nil)
  (ms_cons (ms_set 3 (me_call X__law_number L__law_number (hr.mono (by decide)) T.g__law_number T.F__law_number.kp T.b__law_number (takes_of rfl rfl rfl rfl) (ma_cons (me_ix (me_v 2) me_int) ma_nil)) sc__law_line.nd)
  (ms_cons (ms_if (mt_cmp om_isN (me_v 3) me_non) (ms_one (ms_ret me_non)) ms_nil)
  (ms_cons (ms_if (mt_cmp (om_eq hr.units) (me_v 1) me_int) (ms_cons (ms_set 4 (me_call X__law_number L__law_number (hr.mono (by decide)) T.g__law_number T.F__law_number.kp T.b__law_number (takes_of rfl rfl rfl rfl) (ma_cons (me_ix (me_v 2) me_int) ma_nil)) sc__law_line.nd)
  (ms_cons (ms_if (mt_cmp om_isN (me_v 4) me_non) (ms_one (ms_ret me_non)) ms_nil)
  (ms_one (ms_ret (me_tup (ma_cons (me_v 3) (ma_cons (me_v 4) ma_nil))))))) ms_nil)
  (ms_cons (ms_lc (t := (.nm 6)) (g := gTg K (.nm 6)) false 5 rfl sc__law_line.nd rfl (mi_seq (me_split false (me_ix (me_v 2) me_int) (ma_cons me_str ma_nil))) (blkOk_by (own := [("_law_word", 6)]) rfl) (fun _ _ _ _ _ => (pg_name (i := 6) sc__law_line.nd rfl (by first | exact Or.inl rfl | exact Or.inr rfl))) (fun _ _ _ _ _ => mts_nil) (fun _ _ _ _ _ => (me_call X__law_number L__law_number (hr.mono (by decide)) T.g__law_number T.F__law_number.kp T.b__law_number LamX.takes0 (ma_cons (me_v 6) ma_nil))))
  (ms_cons (ms_if (mt_cmp (om_in2 hr.units65) me_non (me_v 5)) (ms_one (ms_ret me_non)) ms_nil)
  (ms_one (ms_ret (me_tup (ma_cons (me_callTy cm_tuple T.z_tuple boot_tuple (ma_cons (me_v 5) ma_nil)) (ma_cons (me_v 3) ma_nil)))))))))))))
theorem ok__law_bad_part (T : Top P K mg a) (X__law_primes : FnM P w K mg base 1 a.f__law_primes a.fd__law_primes [] m__law_primes) : FnM P w K mg base 2 a.f__law_bad_part a.fd__law_bad_part ["_law_prime", "_law_many", "_law_pieces"] m__law_bad_part := by
  have L__law_primes : ∀ qs h, m__law_primes qs h ≠ .bad → qs.length = 0 := by intro qs h e; unfold m__law_primes at e; exact mDef_len e
  unfold m__law_bad_part
  have z := FnM.of (P := P) (w := w) (mg := mg) (base := base) (k := 1) (body := b__law_bad_part) true T.F__law_bad_part sc__law_bad_part
  exact z (fun cdv A outer s H E hr =>
  (ms_cons (ms_if (mt_cmp (om_notIn2 hr.units65) (me_v 0) (me_call0 X__law_primes L__law_primes (hr.mono (by decide)) T.g__law_primes T.F__law_primes.kp T.b__law_primes (takes_of rfl rfl rfl rfl))) (ms_one (ms_ret me_str)) ms_nil)
  (ms_cons (ms_if (mt_not (mt_chain om_le om_le me_int (me_v 1) me_int)) (ms_one (ms_ret me_str)) ms_nil)
  (ms_cons (ms_if (mt_cmp om_gt (me_callB cm_len T.z_len boot_len (ma_cons (me_v 2) ma_nil)) me_int) (ms_one (ms_ret me_str)) ms_nil)
  (ms_cons (ms_for (t := (.nm 3)) (passes_of rfl) rfl (mi_range1 T.z_range (ma_cons (me_callB cm_len T.z_len boot_len (ma_cons (me_v 2) ma_nil)) ma_nil)) (pg_name (i := 3) sc__law_bad_part.nd rfl (by first | exact Or.inl rfl | exact Or.inr rfl)) (ms_cons (ms_asg (t := (.tp [(.nm 4), (.nm 5)])) (me_ix (me_v 2) (me_v 3)) (pg_tup rfl (pgs_cons (pg_name (i := 4) sc__law_bad_part.nd rfl (by first | exact Or.inl rfl | exact Or.inr rfl)) (pgs_cons (pg_name (i := 5) sc__law_bad_part.nd rfl (by first | exact Or.inl rfl | exact Or.inr rfl)) pgs_nil))))
  (ms_one (ms_if (mt_w (mw_or (mt_cmp (om_ne hr.units) (me_callB cm_len T.z_len boot_len (ma_cons (me_v 4) ma_nil)) (me_v 1)) (mw_or (mt_cmp om_ge (me_callB (cm_max rfl) T.z_max boot_max (ma_cons (me_v 4) ma_nil)) (me_v 0)) (mw_or (mt_cmp (om_eq hr.units) (me_callB (cm_max rfl) T.z_max boot_max (ma_cons (me_v 4) ma_nil)) me_int) (mw_or1 (mt_not (mt_chain om_le om_le me_int (me_v 5) (me_op om_pow me_int me_int)))))))) (ms_one (ms_ret (me_v 3))) ms_nil))))
  (ms_one (ms_ret me_non)))))))
theorem ok__law_due (T : Top P K mg a) (X__law_line : FnM P w K mg base 2 a.f__law_line a.fd__law_line ["_law_line_here", "_law_at"] m__law_line) (X__law_bad_part : FnM P w K mg base 2 a.f__law_bad_part a.fd__law_bad_part ["_law_prime", "_law_many", "_law_pieces"] m__law_bad_part) : FnM P w K mg base 3 a.f__law_due a.fd__law_due ["_law_text_here"] m__law_due := by
  have L__law_line : ∀ qs h, m__law_line qs h ≠ .bad → qs.length = 2 := by intro qs h e; unfold m__law_line at e; exact mDef_len e
  have L__law_bad_part : ∀ qs h, m__law_bad_part qs h ≠ .bad → qs.length = 3 := by intro qs h e; unfold m__law_bad_part at e; exact mDef_len e
  unfold m__law_due
  have z := FnM.of (P := P) (w := w) (mg := mg) (base := base) (k := 2) (body := b__law_due) true T.F__law_due sc__law_due
  exact z (fun cdv A outer s H E hr =>
  (ms_cons (ms_set 1 (me_split false (me_v 0) (ma_cons me_str ma_nil)) sc__law_due.nd)
  (ms_cons (ms_set 2 (me_lst true ma_nil) sc__law_due.nd)
  (ms_cons (ms_for (t := (.nm 3)) (passes_of rfl) rfl (mi_range1 T.z_range (ma_cons (me_op om_subI (me_callB cm_len T.z_len boot_len (ma_cons (me_v 1) ma_nil)) me_int) ma_nil)) (pg_name (i := 3) sc__law_due.nd rfl (by first | exact Or.inl rfl | exact Or.inr rfl)) (ms_cons (ms_set 4 (me_call X__law_line L__law_line (hr.mono (by decide)) T.g__law_line T.F__law_line.kp T.b__law_line (takes_of rfl rfl rfl rfl) (ma_cons (me_ix (me_v 1) (me_v 3)) (ma_cons (me_v 3) ma_nil))) sc__law_due.nd)
  (ms_cons (ms_if (mt_cmp om_isN (me_v 4) me_non) (ms_one (ms_ret (me_tup (ma_cons me_str (ma_cons (me_op (om_add false) (me_v 3) me_int) ma_nil))))) ms_nil)
  (ms_one (ms_expr (me_append (me_v 2) (ma_cons (me_v 4) ma_nil)))))))
  (ms_cons (ms_if (mt_w (mw_or (mt_cmp (om_ne hr.units) (me_ix (me_v 1) (me_un um_neg me_int)) me_str) (mw_or1 (mt_cmp (om_eq hr.units) (me_callB cm_len T.z_len boot_len (ma_cons (me_v 2) ma_nil)) me_int)))) (ms_one (ms_ret (me_tup (ma_cons me_str (ma_cons (me_callB cm_len T.z_len boot_len (ma_cons (me_v 1) ma_nil)) ma_nil))))) ms_nil)
  (ms_cons (ms_set 5 (me_call X__law_bad_part L__law_bad_part (hr.mono (by decide)) T.g__law_bad_part T.F__law_bad_part.kp T.b__law_bad_part (takes_of rfl rfl rfl rfl) (ma_cons (me_ix (me_ix (me_v 2) me_int) me_int) (ma_cons (me_ix (me_ix (me_v 2) me_int) me_int) (ma_cons (me_sl false (me_v 2) (mp_some me_int) mp_none) ma_nil)))) sc__law_due.nd)
  (ms_cons (ms_if (mt_cmp om_notN (me_v 5) me_non) (ms_one (ms_ret (me_tup (ma_cons me_str (ma_cons (me_v 5) ma_nil))))) ms_nil)
  (ms_one (ms_ret (me_tup (ma_cons me_str (ma_cons (me_ix (me_ix (me_v 2) me_int) me_int) (ma_cons (me_ix (me_ix (me_v 2) me_int) me_int) (ma_cons (me_callTy cm_tuple T.z_tuple boot_tuple (ma_cons (me_sl false (me_v 2) (mp_some me_int) mp_none) ma_nil)) ma_nil))))))))))))))
theorem ok__law_told (T : Top P K mg a) (X_read_web : FnM P w K mg base 7 a.f_read_web a.fd_read_web ["text"] m_read_web) : FnM P w K mg base 8 a.f__law_told a.fd__law_told ["_law_text_here"] m__law_told := by
  have L_read_web : ∀ qs h, m_read_web qs h ≠ .bad → qs.length = 1 := by intro qs h e; unfold m_read_web at e; exact mDef_len e
  unfold m__law_told
  have z := FnM.of (P := P) (w := w) (mg := mg) (base := base) (k := 7) (body := b__law_told) true T.F__law_told sc__law_told
  exact z (fun cdv A outer s H E hr =>
  (ms_cons (ms_try rfl rfl sc__law_told.nd (takes_of rfl rfl rfl rfl) (fun W pn xe tk po => (ms_cons (ms_set 1 (me_call X_read_web L_read_web (hr.mono (by decide)) T.g_read_web T.F_read_web.kp T.b_read_web tk (ma_cons (me_v 0) ma_nil)) sc__law_told.nd)
  (ms_one (ms_set 2 (me_tup (ma_cons me_str (ma_cons (me_attr T.k_Web T.cl_Web T.no_Web_prime (me_v 1)) (ma_cons (me_attr T.k_Web T.cl_Web T.no_Web_many (me_v 1)) (ma_cons (me_attr T.k_Web T.cl_Web T.no_Web_pieces (me_v 1)) ma_nil))))) sc__law_told.nd)))) (.cons (z := z0__law_told) ⟨rfl, by decide, .inl T.k_BadText⟩ rfl rfl rfl (all_exm (exm_c T.k_BadText T.em_BadText_BadText (exm_c T.k_BadWeb T.em_BadWeb_BadText exm_n))) (fun c ea oe C d ed fs pn hl hm hz hf hd => by
    have ec := only_true hl (x := "BadText") (by decide)
    subst ec
    cases T.k_BadText.symm.trans hm
    exact (ms_cons (ms_set 2 (me_tup (ma_cons me_str (ma_cons (me_errF (X := cxOf (L2.CX P w) P w K mg base ["_law_text_here", "_law_web", "_law_found", "e"] "_law_told" (defScope s__law_told) a.f__law_told cdv A outer s H E) T.xf_BadText T.xn_BadText_line hz hf hd (me_v 3)) ma_nil))) sc__law_told.nd)
  (ms_one (ms_if (mt_not (mt_val (me_errI (X := cxOf (L2.CX P w) P w K mg base ["_law_text_here", "_law_web", "_law_found", "e"] "_law_told" (defScope s__law_told) a.f__law_told cdv A outer s H E) T.ec_BadText T.z_isinstance T.k_KeepError T.ki_BadText_KeepError hz hf hd (me_v 3)))) (ms_one (ms_set 2 (me_tup (ma_cons me_str (ma_cons me_int ma_nil))) sc__law_told.nd)) ms_nil)))) (.cons (z := z1__law_told) ⟨rfl, by decide, .inl T.k_BadWeb⟩ rfl rfl rfl (all_exm (exm_c T.k_BadWeb T.em_BadWeb_BadWeb exm_n)) (fun c ea oe C d ed fs pn hl hm hz hf hd => by
    have ec := only_true hl (x := "BadWeb") (by decide)
    subst ec
    cases T.k_BadWeb.symm.trans hm
    exact (ms_cons (ms_set 2 (me_tup (ma_cons me_str (ma_cons (me_errF (X := cxOf (L2.CX P w) P w K mg base ["_law_text_here", "_law_web", "_law_found", "e"] "_law_told" (defScope s__law_told) a.f__law_told cdv A outer s H E) T.xf_BadWeb T.xn_BadWeb_part hz hf hd (me_v 3)) ma_nil))) sc__law_told.nd)
  (ms_one (ms_if (mt_not (mt_val (me_errI (X := cxOf (L2.CX P w) P w K mg base ["_law_text_here", "_law_web", "_law_found", "e"] "_law_told" (defScope s__law_told) a.f__law_told cdv A outer s H E) T.ec_BadWeb T.z_isinstance T.k_KeepError T.ki_BadWeb_KeepError hz hf hd (me_v 3)))) (ms_one (ms_set 2 (me_tup (ma_cons me_str (ma_cons me_int ma_nil))) sc__law_told.nd)) ms_nil)))) .nil)))
  (ms_one (ms_ret (me_v 2)))))
theorem ok__law_is_same (T : Top P K mg a) : ∀ n : Nat, FnM P w K mg base (n + 1) a.f__law_is_same a.fd__law_is_same ["_law_told_here", "_law_due_here"] (m__law_is_same n)
  | 0 => FnM_bad
  | n + 1 => have X0 := ok__law_is_same T n; have L0 := len__law_is_same n; FnM.of true T.F__law_is_same sc__law_is_same fun cdv A outer s H E hr =>
  (ms_cons (ms_if (mt_val (me_callB cm_isi T.z_isinstance boot_isinstance (ma_cons (me_v 1) (ma_cons (me_ty T.z_tuple) ma_nil)))) (ms_cons (ms_if (mt_w (mw_or (mt_not (mt_val (me_callB cm_isi T.z_isinstance boot_isinstance (ma_cons (me_v 0) (ma_cons (me_ty T.z_tuple) ma_nil))))) (mw_or1 (mt_cmp (om_ne hr.units) (me_callB cm_len T.z_len boot_len (ma_cons (me_v 0) ma_nil)) (me_callB cm_len T.z_len boot_len (ma_cons (me_v 1) ma_nil)))))) (ms_one (ms_ret me_bl)) ms_nil)
  (ms_one (ms_ret (me_callB (cm_all rfl) T.z_all boot_all (ma_cons (me_lc (t := (.nm 2)) (g := gTg K (.nm 2)) false rfl sc__law_is_same.nd (mi_range1 T.z_range (ma_cons (me_callB cm_len T.z_len boot_len (ma_cons (me_v 1) ma_nil)) ma_nil)) (blkOk_by (own := [("_law_k", 2)]) rfl) (fun _ _ _ _ _ => (pg_name (i := 2) sc__law_is_same.nd rfl (by first | exact Or.inl rfl | exact Or.inr rfl))) (fun _ _ _ _ _ => mts_nil) (fun _ _ _ _ _ => (me_call X0 L0 hr T.g__law_is_same T.F__law_is_same.kp T.b__law_is_same LamX.takes0 (ma_cons (me_ix (me_v 0) (me_v 2)) (ma_cons (me_ix (me_v 1) (me_v 2)) ma_nil))))) ma_nil))))) ms_nil)
  (ms_one (ms_ret (me_and (me_cmp (om_eq hr.units) (me_callB cm_isi T.z_isinstance boot_isinstance (ma_cons (me_v 0) (ma_cons (me_ty T.z_bool) ma_nil))) (me_callB cm_isi T.z_isinstance boot_isinstance (ma_cons (me_v 1) (ma_cons (me_ty T.z_bool) ma_nil)))) (me_one (me_cmp (om_eq hr.units) (me_v 0) (me_v 1)))))))
theorem ok__law_spoilt (T : Top P K mg a) (X__law_draw : FnM P w K mg base 2 a.f__law_draw a.fd__law_draw ["_law_bag_here", "_law_many"] m__law_draw) : FnM P w K mg base 3 a.f__law_spoilt a.fd__law_spoilt ["_law_bag_here", "_law_text_here"] m__law_spoilt := by
  have L__law_draw : ∀ qs h, m__law_draw qs h ≠ .bad → qs.length = 2 := by intro qs h e; unfold m__law_draw at e; exact mDef_len e
  unfold m__law_spoilt
  have z := FnM.of (P := P) (w := w) (mg := mg) (base := base) (k := 2) (body := b__law_spoilt) true T.F__law_spoilt sc__law_spoilt
  exact z (fun cdv A outer s H E hr =>
  (ms_cons (ms_set 2 me_str sc__law_spoilt.nd)
  (ms_cons (ms_set 3 (me_ix (me_v 2) (me_call X__law_draw L__law_draw (hr.mono (by decide)) T.g__law_draw T.F__law_draw.kp T.b__law_draw (takes_of rfl rfl rfl rfl) (ma_cons (me_v 0) (ma_cons (me_callB cm_len T.z_len boot_len (ma_cons (me_v 2) ma_nil)) ma_nil)))) sc__law_spoilt.nd)
  (ms_cons (ms_set 4 (me_call X__law_draw L__law_draw (hr.mono (by decide)) T.g__law_draw T.F__law_draw.kp T.b__law_draw (takes_of rfl rfl rfl rfl) (ma_cons (me_v 0) (ma_cons (me_op (om_add false) (me_callB cm_len T.z_len boot_len (ma_cons (me_v 1) ma_nil)) me_int) ma_nil))) sc__law_spoilt.nd)
  (ms_cons (ms_set 5 (me_call X__law_draw L__law_draw (hr.mono (by decide)) T.g__law_draw T.F__law_draw.kp T.b__law_draw (takes_of rfl rfl rfl rfl) (ma_cons (me_v 0) (ma_cons me_int ma_nil))) sc__law_spoilt.nd)
  (ms_cons (ms_if (mt_cmp om_lt (me_v 5) me_int) (ms_one (ms_ret (me_op (om_add false) (me_op (om_add false) (me_sl false (me_v 1) mp_none (mp_some (me_v 4))) (me_v 3)) (me_sl false (me_v 1) (mp_some (me_v 4)) mp_none)))) ms_nil)
  (ms_cons (ms_if (mt_cmp om_lt (me_v 5) me_int) (ms_one (ms_ret (me_op (om_add false) (me_sl false (me_v 1) mp_none (mp_some (me_v 4))) (me_sl false (me_v 1) (mp_some (me_op (om_add false) (me_v 4) me_int)) mp_none)))) ms_nil)
  (ms_cons (ms_if (mt_cmp (om_eq hr.units) (me_v 5) me_int) (ms_one (ms_ret (me_op (om_add false) (me_op (om_add false) (me_sl false (me_v 1) mp_none (mp_some (me_v 4))) (me_v 3)) (me_sl false (me_v 1) (mp_some (me_op (om_add false) (me_v 4) me_int)) mp_none)))) ms_nil)
  (ms_cons (ms_set 6 (me_split false (me_v 1) (ma_cons me_str ma_nil)) sc__law_spoilt.nd)
  (ms_cons (ms_set 7 (me_call X__law_draw L__law_draw (hr.mono (by decide)) T.g__law_draw T.F__law_draw.kp T.b__law_draw (takes_of rfl rfl rfl rfl) (ma_cons (me_v 0) (ma_cons (me_callB cm_len T.z_len boot_len (ma_cons (me_v 6) ma_nil)) ma_nil))) sc__law_spoilt.nd)
  (ms_cons (ms_if (mt_cmp (om_eq hr.units) (me_v 5) me_int) (ms_one (ms_ret (me_join me_str (ma_cons (me_op (om_add false) (me_sl false (me_v 6) mp_none (mp_some (me_v 7))) (me_sl false (me_v 6) (mp_some (me_op (om_add false) (me_v 7) me_int)) mp_none)) ma_nil)))) ms_nil)
  (ms_cons (ms_if (mt_cmp (om_eq hr.units) (me_v 5) me_int) (ms_one (ms_ret (me_join me_str (ma_cons (me_op (om_add false) (me_sl false (me_v 6) mp_none (mp_some (me_op (om_add false) (me_v 7) me_int))) (me_sl false (me_v 6) (mp_some (me_v 7)) mp_none)) ma_nil)))) ms_nil)
  (ms_cons (ms_set 8 (me_lst true (ma_cons me_str (ma_cons me_str (ma_cons me_str (ma_cons me_str (ma_cons me_str (ma_cons me_str (ma_cons me_str (ma_cons me_str (ma_cons me_str ma_nil)))))))))) sc__law_spoilt.nd)
  (ms_cons (ms_set 8 (me_op (om_add true) (me_v 8) (me_lst false (ma_cons me_str (ma_cons me_str (ma_cons me_str (ma_cons me_str (ma_cons me_str (ma_cons me_str ma_nil)))))))) sc__law_spoilt.nd)
  (ms_cons (ms_expr (me_append (me_v 8) (ma_cons me_str ma_nil)))
  (ms_cons (ms_set 9 (me_ix (me_v 8) (me_call X__law_draw L__law_draw (hr.mono (by decide)) T.g__law_draw T.F__law_draw.kp T.b__law_draw (takes_of rfl rfl rfl rfl) (ma_cons (me_v 0) (ma_cons me_int ma_nil)))) sc__law_spoilt.nd)
  (ms_cons (ms_if (mt_cmp (om_eq hr.units) (me_v 5) me_int) (ms_one (ms_ret (me_join me_str (ma_cons (me_op (om_add false) (me_op (om_add false) (me_sl false (me_v 6) mp_none (mp_some (me_v 7))) (me_lst false (ma_cons (me_v 9) ma_nil))) (me_sl false (me_v 6) (mp_some (me_op (om_add false) (me_v 7) me_int)) mp_none)) ma_nil)))) ms_nil)
  (ms_one (ms_ret (me_join me_str (ma_cons (me_op (om_add false) (me_op (om_add false) (me_sl false (me_v 6) mp_none (mp_some (me_v 7))) (me_lst false (ma_cons (me_v 9) ma_nil))) (me_sl false (me_v 6) (mp_some (me_v 7)) mp_none)) ma_nil)))))))))))))))))))))
theorem ok_law (T : Top P K mg a) (X_Web___init__ : FnM P w K mg base 5 a.f_Web___init__ a.fd_Web___init__ ["self", "prime", "many", "pieces"] m_Web___init__) (X_Web___eq__ : FnM P w K mg base 1 a.f_Web___eq__ a.fd_Web___eq__ ["self", "other"] m_Web___eq__) (X_web_text : FnM P w K mg base 1 a.f_web_text a.fd_web_text ["web"] m_web_text) (X_read_web : FnM P w K mg base 7 a.f_read_web a.fd_read_web ["text"] m_read_web) (X__law_bag : FnM P w K mg base 1 a.f__law_bag a.fd__law_bag ["_law_script"] m__law_bag) (X__law_draw : FnM P w K mg base 2 a.f__law_draw a.fd__law_draw ["_law_bag_here", "_law_many"] m__law_draw) (X__law_drawn : FnM P w K mg base 3 a.f__law_drawn a.fd__law_drawn ["_law_bag_here"] m__law_drawn) (X__law_text : FnM P w K mg base 1 a.f__law_text a.fd__law_text ["_law_web"] m__law_text) (X__law_due : FnM P w K mg base 3 a.f__law_due a.fd__law_due ["_law_text_here"] m__law_due) (X__law_told : FnM P w K mg base 8 a.f__law_told a.fd__law_told ["_law_text_here"] m__law_told) (X__law_is_same : FnM P w K mg base 6 a.f__law_is_same a.fd__law_is_same ["_law_told_here", "_law_due_here"] (m__law_is_same 5)) (X__law_spoilt : FnM P w K mg base 3 a.f__law_spoilt a.fd__law_spoilt ["_law_bag_here", "_law_text_here"] m__law_spoilt) : FnM P w K mg base 9 a.f_law a.fd_law ["_law_script"] m_law := by
  have L_Web___init__ : ∀ qs h, m_Web___init__ qs h ≠ .bad → qs.length = 4 := by intro qs h e; unfold m_Web___init__ at e; exact mDef_len e
  have L_Web___eq__ : ∀ qs h, m_Web___eq__ qs h ≠ .bad → qs.length = 2 := by intro qs h e; unfold m_Web___eq__ at e; exact mDef_len e
  have L_web_text : ∀ qs h, m_web_text qs h ≠ .bad → qs.length = 1 := by intro qs h e; unfold m_web_text at e; exact mDef_len e
  have L_read_web : ∀ qs h, m_read_web qs h ≠ .bad → qs.length = 1 := by intro qs h e; unfold m_read_web at e; exact mDef_len e
  have L__law_bag : ∀ qs h, m__law_bag qs h ≠ .bad → qs.length = 1 := by intro qs h e; unfold m__law_bag at e; exact mDef_len e
  have L__law_draw : ∀ qs h, m__law_draw qs h ≠ .bad → qs.length = 2 := by intro qs h e; unfold m__law_draw at e; exact mDef_len e
  have L__law_drawn : ∀ qs h, m__law_drawn qs h ≠ .bad → qs.length = 1 := by intro qs h e; unfold m__law_drawn at e; exact mDef_len e
  have L__law_text : ∀ qs h, m__law_text qs h ≠ .bad → qs.length = 1 := by intro qs h e; unfold m__law_text at e; exact mDef_len e
  have L__law_due : ∀ qs h, m__law_due qs h ≠ .bad → qs.length = 1 := by intro qs h e; unfold m__law_due at e; exact mDef_len e
  have L__law_told : ∀ qs h, m__law_told qs h ≠ .bad → qs.length = 1 := by intro qs h e; unfold m__law_told at e; exact mDef_len e
  have L__law_is_same : ∀ qs h, (m__law_is_same 5) qs h ≠ .bad → qs.length = 2 := len__law_is_same _
  have L__law_spoilt : ∀ qs h, m__law_spoilt qs h ≠ .bad → qs.length = 2 := by intro qs h e; unfold m__law_spoilt at e; exact mDef_len e
  unfold m_law
  have z := FnM.of (P := P) (w := w) (mg := mg) (base := base) (k := 8) (body := b_law) true T.F_law sc_law
  exact z (fun cdv A outer s H E hr =>
  (ms_cons (ms_set 1 (me_call X__law_bag L__law_bag (hr.mono (by decide)) T.g__law_bag T.F__law_bag.kp T.b__law_bag (takes_of rfl rfl rfl rfl) (ma_cons (me_v 0) ma_nil)) sc_law.nd)
  (ms_cons (ms_set 2 (me_call X__law_drawn L__law_drawn (hr.mono (by decide)) T.g__law_drawn T.F__law_drawn.kp T.b__law_drawn (takes_of rfl rfl rfl rfl) (ma_cons (me_v 1) ma_nil)) sc_law.nd)
  (ms_cons (ms_set 3 (me_new T.mk_Web X_Web___init__ L_Web___init__ (hr.mono (by decide)) T.k_Web T.b_Web___init__ (takes_of rfl rfl rfl rfl) (ma_cons (me_ix (me_v 2) me_int) (ma_cons (me_ix (me_v 2) me_int) (ma_cons (me_ix (me_v 2) me_int) ma_nil)))) sc_law.nd)
  (ms_cons (ms_set 4 (me_call X__law_text L__law_text (hr.mono (by decide)) T.g__law_text T.F__law_text.kp T.b__law_text (takes_of rfl rfl rfl rfl) (ma_cons (me_v 2) ma_nil)) sc_law.nd)
  (ms_cons (ms_if (mt_w (mw_or (mt_cmp (om_ne hr.units) (me_call X_web_text L_web_text (hr.mono (by decide)) T.g_web_text T.F_web_text.kp T.b_web_text (takes_of rfl rfl rfl rfl) (ma_cons (me_v 3) ma_nil)) (me_v 4)) (mw_or (mt_not (mt_val (me_call X__law_is_same L__law_is_same (hr.mono (by decide)) T.g__law_is_same T.F__law_is_same.kp T.b__law_is_same (takes_of rfl rfl rfl rfl) (ma_cons (me_call X__law_told L__law_told (hr.mono (by decide)) T.g__law_told T.F__law_told.kp T.b__law_told (takes_of rfl rfl rfl rfl) (ma_cons (me_v 4) ma_nil)) (ma_cons (me_op (om_add false) (me_tup (ma_cons me_str ma_nil)) (me_v 2)) ma_nil))))) (mw_or1 (mt_cmp (om_neC T.k_Web T.ne_Web X_Web___eq__ rfl T.b_Web___eq__ (hr.mono (by decide))) (me_call X_read_web L_read_web (hr.mono (by decide)) T.g_read_web T.F_read_web.kp T.b_read_web (takes_of rfl rfl rfl rfl) (ma_cons (me_v 4) ma_nil)) (me_v 3)))))) (ms_one (ms_ret me_bl)) ms_nil)
  (ms_cons (ms_for (t := (.nm 5)) (passes_of rfl) rfl (mi_range1 T.z_range (ma_cons me_int ma_nil)) (pg_name (i := 5) sc_law.nd rfl (by first | exact Or.inl rfl | exact Or.inr rfl)) (ms_cons (ms_set 6 (me_v 4) sc_law.nd)
  (ms_cons (ms_for (t := (.nm 7)) (passes_of rfl) rfl (mi_range1 T.z_range (ma_cons (me_call X__law_draw L__law_draw (hr.mono (by decide)) T.g__law_draw T.F__law_draw.kp T.b__law_draw (takes_of rfl rfl rfl rfl) (ma_cons (me_v 1) (ma_cons me_int ma_nil))) ma_nil)) (pg_name (i := 7) sc_law.nd rfl (by first | exact Or.inl rfl | exact Or.inr rfl)) (ms_one (ms_set 6 (me_call X__law_spoilt L__law_spoilt (hr.mono (by decide)) T.g__law_spoilt T.F__law_spoilt.kp T.b__law_spoilt (takes_of rfl rfl rfl rfl) (ma_cons (me_v 1) (ma_cons (me_v 6) ma_nil))) sc_law.nd)))
  (ms_cons (ms_set 8 (me_call X__law_due L__law_due (hr.mono (by decide)) T.g__law_due T.F__law_due.kp T.b__law_due (takes_of rfl rfl rfl rfl) (ma_cons (me_v 6) ma_nil)) sc_law.nd)
  (ms_cons (ms_if (mt_not (mt_val (me_call X__law_is_same L__law_is_same (hr.mono (by decide)) T.g__law_is_same T.F__law_is_same.kp T.b__law_is_same (takes_of rfl rfl rfl rfl) (ma_cons (me_call X__law_told L__law_told (hr.mono (by decide)) T.g__law_told T.F__law_told.kp T.b__law_told (takes_of rfl rfl rfl rfl) (ma_cons (me_v 6) ma_nil)) (ma_cons (me_v 8) ma_nil))))) (ms_one (ms_ret me_bl)) ms_nil)
  (ms_one (ms_if (mt_w (mw_and (mt_cmp (om_eq hr.units) (me_ix (me_v 8) me_int) me_str) (mw_and1 (mt_cmp (om_ne hr.units) (me_call X_web_text L_web_text (hr.mono (by decide)) T.g_web_text T.F_web_text.kp T.b_web_text (takes_of rfl rfl rfl rfl) (ma_cons (me_call X_read_web L_read_web (hr.mono (by decide)) T.g_read_web T.F_read_web.kp T.b_read_web (takes_of rfl rfl rfl rfl) (ma_cons (me_v 6) ma_nil)) ma_nil)) (me_v 6))))) (ms_one (ms_ret me_bl)) ms_nil)))))))
  (ms_cons (ms_set 9 (me_call X__law_text L__law_text (hr.mono (by decide)) T.g__law_text T.F__law_text.kp T.b__law_text (takes_of rfl rfl rfl rfl) (ma_cons (me_tup (ma_cons (me_ix (me_v 2) me_int) (ma_cons (me_ix (me_v 2) me_int) (ma_cons (me_op (om_mul2 false) (me_tup (ma_cons (me_tup (ma_cons (me_op (om_mul2 false) (me_tup (ma_cons me_int ma_nil)) (me_ix (me_v 2) me_int)) (ma_cons me_int ma_nil))) ma_nil)) (me_op (om_add false) me_int (me_call X__law_draw L__law_draw (hr.mono (by decide)) T.g__law_draw T.F__law_draw.kp T.b__law_draw (takes_of rfl rfl rfl rfl) (ma_cons (me_v 1) (ma_cons me_int ma_nil))))) ma_nil)))) ma_nil)) sc_law.nd)
  (ms_cons (ms_if (mt_not (mt_val (me_call X__law_is_same L__law_is_same (hr.mono (by decide)) T.g__law_is_same T.F__law_is_same.kp T.b__law_is_same (takes_of rfl rfl rfl rfl) (ma_cons (me_call X__law_told L__law_told (hr.mono (by decide)) T.g__law_told T.F__law_told.kp T.b__law_told (takes_of rfl rfl rfl rfl) (ma_cons (me_v 9) ma_nil)) (ma_cons (me_call X__law_due L__law_due (hr.mono (by decide)) T.g__law_due T.F__law_due.kp T.b__law_due (takes_of rfl rfl rfl rfl) (ma_cons (me_v 9) ma_nil)) ma_nil))))) (ms_one (ms_ret me_bl)) ms_nil)
  (ms_cons (ms_for (t := (.nm 10)) (passes_of rfl) rfl (mi_seq (me_lst false (ma_cons me_non (ma_cons me_int (ma_cons (me_tup ma_nil) (ma_cons (me_lst false (ma_cons (me_v 4) ma_nil)) (ma_cons me_bl ma_nil))))))) (pg_name (i := 10) sc_law.nd rfl (by first | exact Or.inl rfl | exact Or.inr rfl)) (ms_one (ms_if (mt_not (mt_val (me_call X__law_is_same L__law_is_same (hr.mono (by decide)) T.g__law_is_same T.F__law_is_same.kp T.b__law_is_same (takes_of rfl rfl rfl rfl) (ma_cons (me_call X__law_told L__law_told (hr.mono (by decide)) T.g__law_told T.F__law_told.kp T.b__law_told (takes_of rfl rfl rfl rfl) (ma_cons (me_v 10) ma_nil)) (ma_cons (me_tup (ma_cons me_str (ma_cons me_int ma_nil))) ma_nil))))) (ms_one (ms_ret me_bl)) ms_nil)))
  (ms_one (ms_ret (me_and (me_call X__law_is_same L__law_is_same (hr.mono (by decide)) T.g__law_is_same T.F__law_is_same.kp T.b__law_is_same (takes_of rfl rfl rfl rfl) (ma_cons (me_call X__law_told L__law_told (hr.mono (by decide)) T.g__law_told T.F__law_told.kp T.b__law_told (takes_of rfl rfl rfl rfl) (ma_cons (me_sl false (me_v 4) mp_none (mp_some (me_un um_neg me_int))) ma_nil)) (ma_cons (me_tup (ma_cons me_str (ma_cons (me_op (om_add false) me_int (me_callB cm_len T.z_len boot_len (ma_cons (me_ix (me_v 2) me_int) ma_nil))) ma_nil))) ma_nil))) (me_one (me_call X__law_is_same L__law_is_same (hr.mono (by decide)) T.g__law_is_same T.F__law_is_same.kp T.b__law_is_same (takes_of rfl rfl rfl rfl) (ma_cons (me_call X__law_told L__law_told (hr.mono (by decide)) T.g__law_told T.F__law_told.kp T.b__law_told (takes_of rfl rfl rfl rfl) (ma_cons me_str ma_nil)) (ma_cons (me_tup (ma_cons me_str (ma_cons me_int ma_nil))) ma_nil)))))))))))))))))
end
end Ev
namespace Ev
open PySem PySem.Spec PyProof.Rows L2
set_option maxHeartbeats 0
theorem ok_all {P : Program} {w : World} {K : PySem.W.Frag} {mg : Str → Option Value} {base : Heap} {a : Ads} (T : Top P K mg a) : FnM P w K mg base 9 a.f_law a.fd_law ["_law_script"] m_law :=
  have X_is_integer := ok_is_integer (w := w) (base := base) T
  have X_is_within := ok_is_within (w := w) (base := base) T X_is_integer
  have X_is_pair := ok_is_pair (w := w) (base := base) T
  have X_is_prime := ok_is_prime (w := w) (base := base) T X_is_within
  have X_is_sum := ok_is_sum (w := w) (base := base) T X_is_within
  have X_is_piece := ok_is_piece (w := w) (base := base) T X_is_within X_is_pair X_is_sum
  have X_Web___init__ := ok_Web___init__ (w := w) (base := base) T X_is_within X_is_prime X_is_piece
  have X_Web___eq__ := ok_Web___eq__ (w := w) (base := base) T
  have X_number_in := ok_number_in (w := w) (base := base) T
  have X_numbers_in := ok_numbers_in (w := w) (base := base) T X_number_in
  have X_web_text := ok_web_text (w := w) (base := base) T
  have X_numbers_behind := ok_numbers_behind (w := w) (base := base) T X_number_in X_numbers_in
  have X_lines_in := ok_lines_in (w := w) (base := base) T
  have X_read_web := ok_read_web (w := w) (base := base) T X_Web___init__ X_numbers_behind X_lines_in
  have X__law_mixed := ok__law_mixed (w := w) (base := base) T
  have X__law_bag := ok__law_bag (w := w) (base := base) T
  have X__law_draw := ok__law_draw (w := w) (base := base) T X__law_mixed
  have X__law_primes := ok__law_primes (w := w) (base := base) T
  have X__law_drawn := ok__law_drawn (w := w) (base := base) T X__law_draw X__law_primes
  have X__law_text := ok__law_text (w := w) (base := base) T
  have X__law_number := ok__law_number (w := w) (base := base) T
  have X__law_line := ok__law_line (w := w) (base := base) T X__law_number
  have X__law_bad_part := ok__law_bad_part (w := w) (base := base) T X__law_primes
  have X__law_due := ok__law_due (w := w) (base := base) T X__law_line X__law_bad_part
  have X__law_told := ok__law_told (w := w) (base := base) T X_read_web
  have X__law_is_same := ok__law_is_same (w := w) (base := base) T 5
  have X__law_spoilt := ok__law_spoilt (w := w) (base := base) T X__law_draw
  ok_law T X_Web___init__ X_Web___eq__ X_web_text X_read_web X__law_bag X__law_draw X__law_drawn X__law_text X__law_due X__law_told X__law_is_same X__law_spoilt
structure OwnF_Web (K : PySem.W.Frag) (mg : Str → Option Value) (C f___init__ f___eq__ : Addr) (fd___init__ fd___eq__ : FuncData) : Prop where
  k_Web : mg "Web" = some (.ref C)
  cl_Web : Cls K C
  no_Web_many : NoAttr K C "many"
  no_Web_pieces : NoAttr K C "pieces"
  no_Web_prime : NoAttr K C "prime"
  F_Web___init__ : Fun K "__init__" "Web.__init__" s_Web___init__ f___init__ fd___init__
  b_Web___init__ : Binds K fd___init__ ["self", "prime", "many", "pieces"] []
  M_Web___init__ : Meth K C "__init__" f___init__
  F_Web___eq__ : Fun K "__eq__" "Web.__eq__" s_Web___eq__ f___eq__ fd___eq__
  b_Web___eq__ : Binds K fd___eq__ ["self", "other"] []
  M_Web___eq__ : Meth K C "__eq__" f___eq__
  mk_Web : Mk K C f___init__
  ne_Web : OwnNe K C f___eq__
  is_Web : C8.InsC K C
theorem own_Web {K : PySem.W.Frag} {mg : Str → Option Value} {h : Heap} {C : Addr} {f___init__ : Addr} {oc___init__ kV___init__ dc___init__ pm___init__ cd___init__ ct___init__ : Value} {od___init__ an___init__ : Option Addr} {sl___init__ : Array (Option Value)} {f___eq__ : Addr} {oc___eq__ kV___eq__ dc___eq__ pm___eq__ cd___eq__ ct___eq__ : Value} {od___eq__ an___eq__ : Option Addr} {sl___eq__ : Array (Option Value)} (X : K.In h) (G : h.Ns mainGlobals mg)
    (a : PySem.W.nsIn K mainGlobals "Web" = some (some (.ref C)))
    (pg : PySem.W.plainGet K C Str.empty = true)
    (hd : PySem.W.hasDictIn K C = true)
    (po : PySem.W.plainOver K C = true)
    (sa : PySem.W.findIn K (.ref C) "__setattr__" = some (some (.builtin "object.__setattr__")))
    (n_many : PySem.W.findIn K (.ref C) "many" = some none)
    (n_pieces : PySem.W.findIn K (.ref C) "pieces" = some none)
    (n_prime : PySem.W.findIn K (.ref C) "prime" = some none)
    (e___init__ : PySem.W.findIn K (.ref C) "__init__" = some (some (.ref f___init__)))
    (l___init__ : K.lookup f___init__ = some ⟨oc___init__, od___init__, .func (PySem.W.fnOf "__init__" "Web.__init__" (defArgs s_Web___init__) (defBody s_Web___init__) (defScope s_Web___init__) .none kV___init__ dc___init__ pm___init__ an___init__ cd___init__ ct___init__), sl___init__⟩)
    (c___init__ : PySem.W.codeIn K cd___init__ "Web.__init__" = true)
    (p___init__ : PySem.W.keepIn K (.ref f___init__) = true)
    (i___init__ : PySem.W.isFn K (.ref f___init__) = true)
    (e___eq__ : PySem.W.findIn K (.ref C) "__eq__" = some (some (.ref f___eq__)))
    (l___eq__ : K.lookup f___eq__ = some ⟨oc___eq__, od___eq__, .func (PySem.W.fnOf "__eq__" "Web.__eq__" (defArgs s_Web___eq__) (defBody s_Web___eq__) (defScope s_Web___eq__) .none kV___eq__ dc___eq__ pm___eq__ an___eq__ cd___eq__ ct___eq__), sl___eq__⟩)
    (c___eq__ : PySem.W.codeIn K cd___eq__ "Web.__eq__" = true)
    (p___eq__ : PySem.W.keepIn K (.ref f___eq__) = true)
    (i___eq__ : PySem.W.isFn K (.ref f___eq__) = true)
    (mk : PySem.W.makesIn K C = true)
    (kc : PySem.W.keepIn K (.ref C) = true)
    (ob : PySem.W.mroIn K C (.type "object") = some true)
    (ne : PySem.W.findIn K (.ref C) "__ne__" = some (some (.builtin "object.__ne__")))
    (ic1 : PySem.W.findIn K (.ref C) "__class__" = some (some (.builtin "object.__class__")))
    (ic2 : PySem.W.specialIn K (.builtin "object.__class__") "__get__" = some (some (.builtin "getset_descriptor.__get__")))
    (ic3 : PySem.W.takesIn K (.builtin "object.__class__") = some true)
    (ic4 : PySem.W.isClsIn K C = true)
    (ic5 : PySem.W.typeIn K (.ref C) = some (.type "type"))
    (ic6 : PySem.W.subIn K (.ref C) (.ref C) = some true) : ∃ (C f___init__ f___eq__ : Addr) (fd___init__ fd___eq__ : FuncData), OwnF_Web K mg C f___init__ f___eq__ fd___init__ fd___eq__ :=
  ⟨C, f___init__, f___eq__, PySem.W.fnOf "__init__" "Web.__init__" (defArgs s_Web___init__) (defBody s_Web___init__) (defScope s_Web___init__) .none kV___init__ dc___init__ pm___init__ an___init__ cd___init__ ct___init__, PySem.W.fnOf "__eq__" "Web.__eq__" (defArgs s_Web___eq__) (defBody s_Web___eq__) (defScope s_Web___eq__) .none kV___eq__ dc___eq__ pm___eq__ an___eq__ cd___eq__ ct___eq__, { k_Web := PySem.W.mg_of X G a, cl_Web := ⟨pg, hd, po, sa⟩, no_Web_many := n_many, no_Web_pieces := n_pieces, no_Web_prime := n_prime, F_Web___init__ := fun_mk (st := s_Web___init__) l___init__ c___init__ p___init__, b_Web___init__ := (fun_mk (st := s_Web___init__) l___init__ c___init__ p___init__).binds (ps := ["self", "prime", "many", "pieces"]) fun _ _ _ _ _ _ us hl => match us, hl with | [_, _, _, _], _ => rfl, M_Web___init__ := ⟨e___init__, i___init__, p___init__⟩, F_Web___eq__ := fun_mk (st := s_Web___eq__) l___eq__ c___eq__ p___eq__, b_Web___eq__ := (fun_mk (st := s_Web___eq__) l___eq__ c___eq__ p___eq__).binds (ps := ["self", "other"]) fun _ _ _ _ _ _ us hl => match us, hl with | [_, _], _ => rfl, M_Web___eq__ := ⟨e___eq__, i___eq__, p___eq__⟩, mk_Web := ⟨mk, e___init__, i___init__, kc⟩, ne_Web := ⟨ne, e___eq__, i___eq__, ob⟩, is_Web := ⟨⟨pg, hd, po, sa⟩, ic1, ic2, ic3, ob, kit_mk ic4 ic5 ic6⟩ }⟩
structure ClsF (P : Program) (K : PySem.W.Frag) (mg : Str → Option Value) (C_KeepError C_BadWeb C_BadText fI_BadText fI_BadWeb : Addr) (q_BadText : PySem.FldX_line.Ps) (q_BadWeb : PySem.FldX_part.Ps) : Prop where
  k_KeepError : mg "KeepError" = some (.ref C_KeepError)
  k_BadWeb : mg "BadWeb" = some (.ref C_BadWeb)
  k_BadText : mg "BadText" = some (.ref C_BadText)
  x1_BadText : PySem.FldX_line.Txt q_BadText P K mg "BadText" C_BadText fI_BadText
  x1_BadWeb : PySem.FldX_part.Txt q_BadWeb P K mg "BadWeb" C_BadWeb fI_BadWeb
  ec_BadText : ExcC K C_BadText
  ki_BadText_KeepError : PySem.W.kitOne K (.ref C_BadText) (.ref C_KeepError) = some true
  xf_BadText : XfC K C_BadText
  xn_BadText_line : PySem.W.findIn K (.ref C_BadText) "line" = some none
  ec_BadWeb : ExcC K C_BadWeb
  ki_BadWeb_KeepError : PySem.W.kitOne K (.ref C_BadWeb) (.ref C_KeepError) = some true
  xf_BadWeb : XfC K C_BadWeb
  xn_BadWeb_part : PySem.W.findIn K (.ref C_BadWeb) "part" = some none
  em_BadText_BadText : PySem.W.exmOne K (.ref C_BadText) (.ref C_BadText) = some true
  em_BadWeb_BadText : PySem.W.exmOne K (.ref C_BadWeb) (.ref C_BadText) = some false
  em_BadWeb_BadWeb : PySem.W.exmOne K (.ref C_BadWeb) (.ref C_BadWeb) = some true
theorem cls_all {P : Program} {K : PySem.W.Frag} {mg : Str → Option Value} {h : Heap} {C_KeepError C_BadWeb C_BadText fI_BadText fI_BadWeb : Addr} {q_BadText : PySem.FldX_line.Ps} {q_BadWeb : PySem.FldX_part.Ps} {nm_BadText qn_BadText : Str} {N_BadText : Addr} {bs_BadText bm_BadText : List Value} {sn_BadText : List Str} {sub_BadText : List Value} {ab_BadText : Bool} {col_BadText : Option Bool} {dd_BadText : Option Addr} {k0_BadText k1_BadText k2_BadText k3_BadText k5_BadText : Option Value} {oc_BadText : Value} {od_BadText : Option Addr} {doc_BadText pm_BadText : Value} {an_BadText : Option Addr} {cda_BadText cc_BadText : Addr} {ct_BadText : Value} {osl_BadText : Array (Option Value)} {p1_BadText p2_BadText : Pos} {cl_BadText ccl_BadText : Value} {cld_BadText cdd_BadText : Option Addr} {csl_BadText ccs_BadText : Array (Option Value)} {vs_BadText : Array Value} {file_BadText qi_BadText : Str} {tf_BadText : Tok} {nm_BadWeb qn_BadWeb : Str} {N_BadWeb : Addr} {bs_BadWeb bm_BadWeb : List Value} {sn_BadWeb : List Str} {sub_BadWeb : List Value} {ab_BadWeb : Bool} {col_BadWeb : Option Bool} {dd_BadWeb : Option Addr} {k0_BadWeb k1_BadWeb k2_BadWeb k3_BadWeb k5_BadWeb : Option Value} {oc_BadWeb : Value} {od_BadWeb : Option Addr} {doc_BadWeb pm_BadWeb : Value} {an_BadWeb : Option Addr} {cda_BadWeb cc_BadWeb : Addr} {ct_BadWeb : Value} {osl_BadWeb : Array (Option Value)} {p1_BadWeb p2_BadWeb : Pos} {cl_BadWeb ccl_BadWeb : Value} {cld_BadWeb cdd_BadWeb : Option Addr} {csl_BadWeb ccs_BadWeb : Array (Option Value)} {vs_BadWeb : Array Value} {file_BadWeb qi_BadWeb : Str} {tf_BadWeb : Tok} (X : K.In h) (G : h.Ns mainGlobals mg)
    (a_KeepError : PySem.W.nsIn K mainGlobals "KeepError" = some (some (.ref C_KeepError)))
    (a_BadWeb : PySem.W.nsIn K mainGlobals "BadWeb" = some (some (.ref C_BadWeb)))
    (a_BadText : PySem.W.nsIn K mainGlobals "BadText" = some (some (.ref C_BadText)))
    (i_BadText : PySem.W.isClsIn K C_BadText = true)
    (t_BadText : PySem.W.typeIn K (.ref C_BadText) = some (.type "type"))
    (b_BadText : PySem.W.subIn K (.ref C_BadText) (.type "BaseException") = some true)
    (x1BadText_hev : PySem.FldX_line.MethEv q_BadText)
    (x1BadText_gs : PySem.W.nsIn K mainGlobals "super" = some none)
    (x1BadText_cls1 : K.lookup C_BadText = some (PySem.excClassObj nm_BadText qn_BadText C_BadText N_BadText bs_BadText bm_BadText true sn_BadText sub_BadText ab_BadText col_BadText dd_BadText k0_BadText k1_BadText k2_BadText k3_BadText k5_BadText "ValueError.__new__"))
    (x1BadText_cls2 : PySem.HandSPX.refsVE bm_BadText = true)
    (x1BadText_sa : PySem.W.findIn K (.ref C_BadText) "__setattr__" = some (some (.builtin "object.__setattr__")))
    (x1BadText_ga : PySem.W.findIn K (.ref C_BadText) "__getattribute__" = some (some (.builtin "BaseException.__getattribute__")))
    (x1BadText_gg : PySem.W.findIn K (.ref C_BadText) "__getattr__" = some none)
    (x1BadText_noN : PySem.W.findIn K (.ref C_BadText) "line" = some none)
    (x1BadText_iC : PySem.W.findIn K (.ref C_BadText) "__init__" = some (some (.ref fI_BadText)))
    (x1BadText_tC : PySem.W.typeIn K (.ref fI_BadText) = some (.type "function"))
    (x1BadText_kC : PySem.W.keepIn K (.ref C_BadText) = true)
    (x1BadText_hdC : PySem.W.hasDictIn K C_BadText = true)
    (x1BadText_hB : PySem.W.subIn K (.ref C_BadText) (.type "ValueError") = some true)
    (x1BadText_hm : PySem.W.ks_superIn K C_BadText C_BadText "__init__" = some (some (.builtin "ValueError.__init__")))
    (x1BadText_hs : PySem.W.mroIn K C_BadText (.ref C_BadText) = some true)
    (x1BadText_ho : PySem.W.nsIn K PySem.cStatics "thirdparty.any" = some none)
    (x1BadText_fn1 : K.lookup fI_BadText = some ⟨oc_BadText, od_BadText, .func (PySem.W.ksFn "__init__" qi_BadText (PySem.FldX_line.iA p1_BadText p2_BadText) (PySem.FldX_line.iB q_BadText) PySem.FldX_line.iS .none .none doc_BadText pm_BadText an_BadText (.ref cda_BadText) ct_BadText cc_BadText), osl_BadText⟩)
    (x1BadText_fn2 : PySem.W.codeIn K (.ref cda_BadText) qi_BadText = true)
    (x1BadText_fn3 : K.lookup cc_BadText = some ⟨cl_BadText, cld_BadText, .cell (some (.ref C_BadText)), csl_BadText⟩)
    (x1BadText_fn4 : K.lookup cda_BadText = some ⟨ccl_BadText, cdd_BadText, .fields vs_BadText, ccs_BadText⟩)
    (x1BadText_fn5 : vs_BadText[2]? = some (.str file_BadText tf_BadText))
    (x1BadText_fn6 : ((P.main.file : Str) == file_BadText) = true)
    (x1BadText_top : (P.main.scope.names.lookup ("super" : Str)).isSome = false)
    (i_BadWeb : PySem.W.isClsIn K C_BadWeb = true)
    (t_BadWeb : PySem.W.typeIn K (.ref C_BadWeb) = some (.type "type"))
    (b_BadWeb : PySem.W.subIn K (.ref C_BadWeb) (.type "BaseException") = some true)
    (x1BadWeb_hev : PySem.FldX_part.MethEv q_BadWeb)
    (x1BadWeb_gs : PySem.W.nsIn K mainGlobals "super" = some none)
    (x1BadWeb_cls1 : K.lookup C_BadWeb = some (PySem.excClassObj nm_BadWeb qn_BadWeb C_BadWeb N_BadWeb bs_BadWeb bm_BadWeb true sn_BadWeb sub_BadWeb ab_BadWeb col_BadWeb dd_BadWeb k0_BadWeb k1_BadWeb k2_BadWeb k3_BadWeb k5_BadWeb "ValueError.__new__"))
    (x1BadWeb_cls2 : PySem.HandSPX.refsVE bm_BadWeb = true)
    (x1BadWeb_sa : PySem.W.findIn K (.ref C_BadWeb) "__setattr__" = some (some (.builtin "object.__setattr__")))
    (x1BadWeb_ga : PySem.W.findIn K (.ref C_BadWeb) "__getattribute__" = some (some (.builtin "BaseException.__getattribute__")))
    (x1BadWeb_gg : PySem.W.findIn K (.ref C_BadWeb) "__getattr__" = some none)
    (x1BadWeb_noN : PySem.W.findIn K (.ref C_BadWeb) "part" = some none)
    (x1BadWeb_iC : PySem.W.findIn K (.ref C_BadWeb) "__init__" = some (some (.ref fI_BadWeb)))
    (x1BadWeb_tC : PySem.W.typeIn K (.ref fI_BadWeb) = some (.type "function"))
    (x1BadWeb_kC : PySem.W.keepIn K (.ref C_BadWeb) = true)
    (x1BadWeb_hdC : PySem.W.hasDictIn K C_BadWeb = true)
    (x1BadWeb_hB : PySem.W.subIn K (.ref C_BadWeb) (.type "ValueError") = some true)
    (x1BadWeb_hm : PySem.W.ks_superIn K C_BadWeb C_BadWeb "__init__" = some (some (.builtin "ValueError.__init__")))
    (x1BadWeb_hs : PySem.W.mroIn K C_BadWeb (.ref C_BadWeb) = some true)
    (x1BadWeb_ho : PySem.W.nsIn K PySem.cStatics "thirdparty.any" = some none)
    (x1BadWeb_fn1 : K.lookup fI_BadWeb = some ⟨oc_BadWeb, od_BadWeb, .func (PySem.W.ksFn "__init__" qi_BadWeb (PySem.FldX_part.iA p1_BadWeb p2_BadWeb) (PySem.FldX_part.iB q_BadWeb) PySem.FldX_part.iS .none .none doc_BadWeb pm_BadWeb an_BadWeb (.ref cda_BadWeb) ct_BadWeb cc_BadWeb), osl_BadWeb⟩)
    (x1BadWeb_fn2 : PySem.W.codeIn K (.ref cda_BadWeb) qi_BadWeb = true)
    (x1BadWeb_fn3 : K.lookup cc_BadWeb = some ⟨cl_BadWeb, cld_BadWeb, .cell (some (.ref C_BadWeb)), csl_BadWeb⟩)
    (x1BadWeb_fn4 : K.lookup cda_BadWeb = some ⟨ccl_BadWeb, cdd_BadWeb, .fields vs_BadWeb, ccs_BadWeb⟩)
    (x1BadWeb_fn5 : vs_BadWeb[2]? = some (.str file_BadWeb tf_BadWeb))
    (x1BadWeb_fn6 : ((P.main.file : Str) == file_BadWeb) = true)
    (x1BadWeb_top : (P.main.scope.names.lookup ("super" : Str)).isSome = false)
    (ec0_BadText : PySem.W.findIn K (.ref C_BadText) "__getattribute__" = some (some (.builtin "BaseException.__getattribute__")))
    (ec1_BadText : PySem.W.findIn K (.ref C_BadText) "__getattr__" = some none)
    (ec2_BadText : PySem.W.subIn K (.ref C_BadText) (.type "BaseException") = some true)
    (ec3_BadText : PySem.W.hasDictIn K C_BadText = true)
    (ec4_BadText : PySem.W.findIn K (.ref C_BadText) "__class__" = some (some (.builtin "object.__class__")))
    (ec5_BadText : PySem.W.specialIn K (.builtin "object.__class__") "__get__" = some (some (.builtin "getset_descriptor.__get__")))
    (ec6_BadText : PySem.W.takesIn K (.builtin "object.__class__") = some true)
    (ec7_BadText : PySem.W.mroIn K C_BadText (.type "object") = some true)
    (i_KeepError : PySem.W.isClsIn K C_KeepError = true)
    (t_KeepError : PySem.W.typeIn K (.ref C_KeepError) = some (.type "type"))
    (b_KeepError : PySem.W.subIn K (.ref C_KeepError) (.type "BaseException") = some true)
    (s_BadText_KeepError : PySem.W.subIn K (.ref C_BadText) (.ref C_KeepError) = some true)
    (ec0_BadWeb : PySem.W.findIn K (.ref C_BadWeb) "__getattribute__" = some (some (.builtin "BaseException.__getattribute__")))
    (ec1_BadWeb : PySem.W.findIn K (.ref C_BadWeb) "__getattr__" = some none)
    (ec2_BadWeb : PySem.W.subIn K (.ref C_BadWeb) (.type "BaseException") = some true)
    (ec3_BadWeb : PySem.W.hasDictIn K C_BadWeb = true)
    (ec4_BadWeb : PySem.W.findIn K (.ref C_BadWeb) "__class__" = some (some (.builtin "object.__class__")))
    (ec5_BadWeb : PySem.W.specialIn K (.builtin "object.__class__") "__get__" = some (some (.builtin "getset_descriptor.__get__")))
    (ec6_BadWeb : PySem.W.takesIn K (.builtin "object.__class__") = some true)
    (ec7_BadWeb : PySem.W.mroIn K C_BadWeb (.type "object") = some true)
    (s_BadWeb_KeepError : PySem.W.subIn K (.ref C_BadWeb) (.ref C_KeepError) = some true)
    (s_BadText_BadText : PySem.W.subIn K (.ref C_BadText) (.ref C_BadText) = some true)
    (s_BadWeb_BadText : PySem.W.subIn K (.ref C_BadWeb) (.ref C_BadText) = some false)
    (s_BadWeb_BadWeb : PySem.W.subIn K (.ref C_BadWeb) (.ref C_BadWeb) = some true) : ∃ (C_KeepError C_BadWeb C_BadText fI_BadText fI_BadWeb : Addr) (q_BadText : PySem.FldX_line.Ps) (q_BadWeb : PySem.FldX_part.Ps), ClsF P K mg C_KeepError C_BadWeb C_BadText fI_BadText fI_BadWeb q_BadText q_BadWeb :=
  ⟨C_KeepError, C_BadWeb, C_BadText, fI_BadText, fI_BadWeb, q_BadText, q_BadWeb, { k_KeepError := PySem.W.mg_of X G a_KeepError, k_BadWeb := PySem.W.mg_of X G a_BadWeb, k_BadText := PySem.W.mg_of X G a_BadText, x1_BadText := { hev := x1BadText_hev, gC := PySem.W.mg_of X G a_BadText, gs := PySem.W.mg_none_of X G x1BadText_gs, exC := b_BadText, tyC := t_BadText, htop := x1BadText_top, cls := ⟨_, _, _, _, _, _, _, _, _, _, _, _, _, _, _, x1BadText_cls1, x1BadText_cls2⟩, sa := x1BadText_sa, ga := x1BadText_ga, gg := x1BadText_gg, noN := x1BadText_noN, iC := x1BadText_iC, tC := x1BadText_tC, kC := x1BadText_kC, hdC := x1BadText_hdC, hB := x1BadText_hB, hm := x1BadText_hm, hs := x1BadText_hs, ho := x1BadText_ho, fn := ⟨_, _, _, _, _, _, _, _, _, _, _, _, _, _, _, _, _, _, _, _, _, x1BadText_fn1, x1BadText_fn2, x1BadText_fn3, x1BadText_fn4, x1BadText_fn5, x1BadText_fn6⟩ }, x1_BadWeb := { hev := x1BadWeb_hev, gC := PySem.W.mg_of X G a_BadWeb, gs := PySem.W.mg_none_of X G x1BadWeb_gs, exC := b_BadWeb, tyC := t_BadWeb, htop := x1BadWeb_top, cls := ⟨_, _, _, _, _, _, _, _, _, _, _, _, _, _, _, x1BadWeb_cls1, x1BadWeb_cls2⟩, sa := x1BadWeb_sa, ga := x1BadWeb_ga, gg := x1BadWeb_gg, noN := x1BadWeb_noN, iC := x1BadWeb_iC, tC := x1BadWeb_tC, kC := x1BadWeb_kC, hdC := x1BadWeb_hdC, hB := x1BadWeb_hB, hm := x1BadWeb_hm, hs := x1BadWeb_hs, ho := x1BadWeb_ho, fn := ⟨_, _, _, _, _, _, _, _, _, _, _, _, _, _, _, _, _, _, _, _, _, x1BadWeb_fn1, x1BadWeb_fn2, x1BadWeb_fn3, x1BadWeb_fn4, x1BadWeb_fn5, x1BadWeb_fn6⟩ }, ec_BadText := ⟨ec0_BadText, ec1_BadText, ec2_BadText, ec3_BadText, ec4_BadText, ec5_BadText, ec6_BadText, ec7_BadText⟩, ki_BadText_KeepError := kit_mk i_KeepError t_KeepError s_BadText_KeepError, xf_BadText := ⟨ec0_BadText, ec1_BadText, ec2_BadText, ec3_BadText⟩, xn_BadText_line := x1BadText_noN, ec_BadWeb := ⟨ec0_BadWeb, ec1_BadWeb, ec2_BadWeb, ec3_BadWeb, ec4_BadWeb, ec5_BadWeb, ec6_BadWeb, ec7_BadWeb⟩, ki_BadWeb_KeepError := kit_mk i_KeepError t_KeepError s_BadWeb_KeepError, xf_BadWeb := ⟨ec0_BadWeb, ec1_BadWeb, ec2_BadWeb, ec3_BadWeb⟩, xn_BadWeb_part := x1BadWeb_noN, em_BadText_BadText := exm_mk b_BadText i_BadText t_BadText s_BadText_BadText, em_BadWeb_BadText := exm_mk b_BadText i_BadText t_BadText s_BadWeb_BadText, em_BadWeb_BadWeb := exm_mk b_BadWeb i_BadWeb t_BadWeb s_BadWeb_BadWeb }⟩
end Ev
open PySem PySem.W PyProof.Rows
set_option maxHeartbeats 0 in
theorem PySem.Challenge.cw_lightfirst_k73_whole_webs_as_texts_holds : PySem.Challenge.rw_lightfirst_k73_whole_webs_as_texts.Holds := by
  w_on; o_law; k_head; (case hw => w_witness2)
  k_fill
  refine LamX.walk_ofTs (l := PySem.Challenge.rw_lightfirst_k73_whole_webs_as_texts) (n := 63) (k := 9) (x := "_law_script") (CX := fun w => L2.CX PySem.Challenge.rw_lightfirst_k73_whole_webs_as_texts.prog w) rfl (by decide) rfl ⟨rfl, by decide, by decide⟩ (fun w h Y => PySem.W.kIn_of Y) ?F (fun _ _ _ _ _ h => by obtain ⟨_, _, _, _, _, _, _, _, _, _, _, _, z⟩ := h; exact z)
  case F =>
    intro w mg fa h Y KX G hmg
    clear Y
    replace hmg : mg "law" = some (.ref fa) := hmg
    obtain ⟨f_is_integer, fd_is_integer, F_is_integer, b_is_integer, g_is_integer⟩ := (by
      refine' Ev.def_mk (x := "is_integer") (st := Ev.s_is_integer) (ps := ["thing"]) KX G (fun _ _ _ _ _ _ us hl => match us, hl with | [_], _ => rfl) ?a ?l ?c ?k
      (case a => k_is); (case l => k_is); (case c => k_is); (case k => k_is) : ∃ f fd, L2.Fun _ "is_integer" "is_integer" Ev.s_is_integer f fd ∧ L2.Binds _ fd ["thing"] [] ∧ mg "is_integer" = some (.ref f))
    obtain ⟨f_is_within, fd_is_within, F_is_within, b_is_within, g_is_within⟩ := (by
      refine' Ev.def_mk (x := "is_within") (st := Ev.s_is_within) (ps := ["thing", "least", "most"]) KX G (fun _ _ _ _ _ _ us hl => match us, hl with | [_, _, _], _ => rfl) ?a ?l ?c ?k
      (case a => k_is); (case l => k_is); (case c => k_is); (case k => k_is) : ∃ f fd, L2.Fun _ "is_within" "is_within" Ev.s_is_within f fd ∧ L2.Binds _ fd ["thing", "least", "most"] [] ∧ mg "is_within" = some (.ref f))
    obtain ⟨f_is_pair, fd_is_pair, F_is_pair, b_is_pair, g_is_pair⟩ := (by
      refine' Ev.def_mk (x := "is_pair") (st := Ev.s_is_pair) (ps := ["thing"]) KX G (fun _ _ _ _ _ _ us hl => match us, hl with | [_], _ => rfl) ?a ?l ?c ?k
      (case a => k_is); (case l => k_is); (case c => k_is); (case k => k_is) : ∃ f fd, L2.Fun _ "is_pair" "is_pair" Ev.s_is_pair f fd ∧ L2.Binds _ fd ["thing"] [] ∧ mg "is_pair" = some (.ref f))
    obtain ⟨f_is_prime, fd_is_prime, F_is_prime, b_is_prime, g_is_prime⟩ := (by
      refine' Ev.def_mk (x := "is_prime") (st := Ev.s_is_prime) (ps := ["thing"]) KX G (fun _ _ _ _ _ _ us hl => match us, hl with | [_], _ => rfl) ?a ?l ?c ?k
      (case a => k_is); (case l => k_is); (case c => k_is); (case k => k_is) : ∃ f fd, L2.Fun _ "is_prime" "is_prime" Ev.s_is_prime f fd ∧ L2.Binds _ fd ["thing"] [] ∧ mg "is_prime" = some (.ref f))
    obtain ⟨f_is_sum, fd_is_sum, F_is_sum, b_is_sum, g_is_sum⟩ := (by
      refine' Ev.def_mk (x := "is_sum") (st := Ev.s_is_sum) (ps := ["prime", "thing"]) KX G (fun _ _ _ _ _ _ us hl => match us, hl with | [_, _], _ => rfl) ?a ?l ?c ?k
      (case a => k_is); (case l => k_is); (case c => k_is); (case k => k_is) : ∃ f fd, L2.Fun _ "is_sum" "is_sum" Ev.s_is_sum f fd ∧ L2.Binds _ fd ["prime", "thing"] [] ∧ mg "is_sum" = some (.ref f))
    obtain ⟨f_is_piece, fd_is_piece, F_is_piece, b_is_piece, g_is_piece⟩ := (by
      refine' Ev.def_mk (x := "is_piece") (st := Ev.s_is_piece) (ps := ["prime", "many", "thing"]) KX G (fun _ _ _ _ _ _ us hl => match us, hl with | [_, _, _], _ => rfl) ?a ?l ?c ?k
      (case a => k_is); (case l => k_is); (case c => k_is); (case k => k_is) : ∃ f fd, L2.Fun _ "is_piece" "is_piece" Ev.s_is_piece f fd ∧ L2.Binds _ fd ["prime", "many", "thing"] [] ∧ mg "is_piece" = some (.ref f))
    obtain ⟨f_number_in, fd_number_in, F_number_in, b_number_in, g_number_in⟩ := (by
      refine' Ev.def_mk (x := "number_in") (st := Ev.s_number_in) (ps := ["word"]) KX G (fun _ _ _ _ _ _ us hl => match us, hl with | [_], _ => rfl) ?a ?l ?c ?k
      (case a => k_is); (case l => k_is); (case c => k_is); (case k => k_is) : ∃ f fd, L2.Fun _ "number_in" "number_in" Ev.s_number_in f fd ∧ L2.Binds _ fd ["word"] [] ∧ mg "number_in" = some (.ref f))
    obtain ⟨f_numbers_in, fd_numbers_in, F_numbers_in, b_numbers_in, g_numbers_in⟩ := (by
      refine' Ev.def_mk (x := "numbers_in") (st := Ev.s_numbers_in) (ps := ["word"]) KX G (fun _ _ _ _ _ _ us hl => match us, hl with | [_], _ => rfl) ?a ?l ?c ?k
      (case a => k_is); (case l => k_is); (case c => k_is); (case k => k_is) : ∃ f fd, L2.Fun _ "numbers_in" "numbers_in" Ev.s_numbers_in f fd ∧ L2.Binds _ fd ["word"] [] ∧ mg "numbers_in" = some (.ref f))
    obtain ⟨f_web_text, fd_web_text, F_web_text, b_web_text, g_web_text⟩ := (by
      refine' Ev.def_mk (x := "web_text") (st := Ev.s_web_text) (ps := ["web"]) KX G (fun _ _ _ _ _ _ us hl => match us, hl with | [_], _ => rfl) ?a ?l ?c ?k
      (case a => k_is); (case l => k_is); (case c => k_is); (case k => k_is) : ∃ f fd, L2.Fun _ "web_text" "web_text" Ev.s_web_text f fd ∧ L2.Binds _ fd ["web"] [] ∧ mg "web_text" = some (.ref f))
    obtain ⟨f_numbers_behind, fd_numbers_behind, F_numbers_behind, b_numbers_behind, g_numbers_behind⟩ := (by
      refine' Ev.def_mk (x := "numbers_behind") (st := Ev.s_numbers_behind) (ps := ["line", "word", "many"]) KX G (fun _ _ _ _ _ _ us hl => match us, hl with | [_, _, _], _ => rfl) ?a ?l ?c ?k
      (case a => k_is); (case l => k_is); (case c => k_is); (case k => k_is) : ∃ f fd, L2.Fun _ "numbers_behind" "numbers_behind" Ev.s_numbers_behind f fd ∧ L2.Binds _ fd ["line", "word", "many"] [] ∧ mg "numbers_behind" = some (.ref f))
    obtain ⟨f_lines_in, fd_lines_in, F_lines_in, b_lines_in, g_lines_in⟩ := (by
      refine' Ev.def_mk (x := "lines_in") (st := Ev.s_lines_in) (ps := ["text"]) KX G (fun _ _ _ _ _ _ us hl => match us, hl with | [_], _ => rfl) ?a ?l ?c ?k
      (case a => k_is); (case l => k_is); (case c => k_is); (case k => k_is) : ∃ f fd, L2.Fun _ "lines_in" "lines_in" Ev.s_lines_in f fd ∧ L2.Binds _ fd ["text"] [] ∧ mg "lines_in" = some (.ref f))
    obtain ⟨f_read_web, fd_read_web, F_read_web, b_read_web, g_read_web⟩ := (by
      refine' Ev.def_mk (x := "read_web") (st := Ev.s_read_web) (ps := ["text"]) KX G (fun _ _ _ _ _ _ us hl => match us, hl with | [_], _ => rfl) ?a ?l ?c ?k
      (case a => k_is); (case l => k_is); (case c => k_is); (case k => k_is) : ∃ f fd, L2.Fun _ "read_web" "read_web" Ev.s_read_web f fd ∧ L2.Binds _ fd ["text"] [] ∧ mg "read_web" = some (.ref f))
    obtain ⟨f__law_mixed, fd__law_mixed, F__law_mixed, b__law_mixed, g__law_mixed⟩ := (by
      refine' Ev.def_mk (x := "_law_mixed") (st := Ev.s__law_mixed) (ps := ["_law_cell", "_law_turn"]) KX G (fun _ _ _ _ _ _ us hl => match us, hl with | [_, _], _ => rfl) ?a ?l ?c ?k
      (case a => k_is); (case l => k_is); (case c => k_is); (case k => k_is) : ∃ f fd, L2.Fun _ "_law_mixed" "_law_mixed" Ev.s__law_mixed f fd ∧ L2.Binds _ fd ["_law_cell", "_law_turn"] [] ∧ mg "_law_mixed" = some (.ref f))
    obtain ⟨f__law_bag, fd__law_bag, F__law_bag, b__law_bag, g__law_bag⟩ := (by
      refine' Ev.def_mk (x := "_law_bag") (st := Ev.s__law_bag) (ps := ["_law_script"]) KX G (fun _ _ _ _ _ _ us hl => match us, hl with | [_], _ => rfl) ?a ?l ?c ?k
      (case a => k_is); (case l => k_is); (case c => k_is); (case k => k_is) : ∃ f fd, L2.Fun _ "_law_bag" "_law_bag" Ev.s__law_bag f fd ∧ L2.Binds _ fd ["_law_script"] [] ∧ mg "_law_bag" = some (.ref f))
    obtain ⟨f__law_draw, fd__law_draw, F__law_draw, b__law_draw, g__law_draw⟩ := (by
      refine' Ev.def_mk (x := "_law_draw") (st := Ev.s__law_draw) (ps := ["_law_bag_here", "_law_many"]) KX G (fun _ _ _ _ _ _ us hl => match us, hl with | [_, _], _ => rfl) ?a ?l ?c ?k
      (case a => k_is); (case l => k_is); (case c => k_is); (case k => k_is) : ∃ f fd, L2.Fun _ "_law_draw" "_law_draw" Ev.s__law_draw f fd ∧ L2.Binds _ fd ["_law_bag_here", "_law_many"] [] ∧ mg "_law_draw" = some (.ref f))
    obtain ⟨f__law_primes, fd__law_primes, F__law_primes, b__law_primes, g__law_primes⟩ := (by
      refine' Ev.def_mk (x := "_law_primes") (st := Ev.s__law_primes) (ps := []) KX G (fun _ _ _ _ _ _ us hl => match us, hl with | [], _ => rfl) ?a ?l ?c ?k
      (case a => k_is); (case l => k_is); (case c => k_is); (case k => k_is) : ∃ f fd, L2.Fun _ "_law_primes" "_law_primes" Ev.s__law_primes f fd ∧ L2.Binds _ fd [] [] ∧ mg "_law_primes" = some (.ref f))
    obtain ⟨f__law_drawn, fd__law_drawn, F__law_drawn, b__law_drawn, g__law_drawn⟩ := (by
      refine' Ev.def_mk (x := "_law_drawn") (st := Ev.s__law_drawn) (ps := ["_law_bag_here"]) KX G (fun _ _ _ _ _ _ us hl => match us, hl with | [_], _ => rfl) ?a ?l ?c ?k
      (case a => k_is); (case l => k_is); (case c => k_is); (case k => k_is) : ∃ f fd, L2.Fun _ "_law_drawn" "_law_drawn" Ev.s__law_drawn f fd ∧ L2.Binds _ fd ["_law_bag_here"] [] ∧ mg "_law_drawn" = some (.ref f))
    obtain ⟨f__law_text, fd__law_text, F__law_text, b__law_text, g__law_text⟩ := (by
      refine' Ev.def_mk (x := "_law_text") (st := Ev.s__law_text) (ps := ["_law_web"]) KX G (fun _ _ _ _ _ _ us hl => match us, hl with | [_], _ => rfl) ?a ?l ?c ?k
      (case a => k_is); (case l => k_is); (case c => k_is); (case k => k_is) : ∃ f fd, L2.Fun _ "_law_text" "_law_text" Ev.s__law_text f fd ∧ L2.Binds _ fd ["_law_web"] [] ∧ mg "_law_text" = some (.ref f))
    obtain ⟨f__law_number, fd__law_number, F__law_number, b__law_number, g__law_number⟩ := (by
      refine' Ev.def_mk (x := "_law_number") (st := Ev.s__law_number) (ps := ["_law_word"]) KX G (fun _ _ _ _ _ _ us hl => match us, hl with | [_], _ => rfl) ?a ?l ?c ?k
      (case a => k_is); (case l => k_is); (case c => k_is); (case k => k_is) : ∃ f fd, L2.Fun _ "_law_number" "_law_number" Ev.s__law_number f fd ∧ L2.Binds _ fd ["_law_word"] [] ∧ mg "_law_number" = some (.ref f))
    obtain ⟨f__law_line, fd__law_line, F__law_line, b__law_line, g__law_line⟩ := (by
      refine' Ev.def_mk (x := "_law_line") (st := Ev.s__law_line) (ps := ["_law_line_here", "_law_at"]) KX G (fun _ _ _ _ _ _ us hl => match us, hl with | [_, _], _ => rfl) ?a ?l ?c ?k
      (case a => k_is); (case l => k_is); (case c => k_is); (case k => k_is) : ∃ f fd, L2.Fun _ "_law_line" "_law_line" Ev.s__law_line f fd ∧ L2.Binds _ fd ["_law_line_here", "_law_at"] [] ∧ mg "_law_line" = some (.ref f))
    obtain ⟨f__law_bad_part, fd__law_bad_part, F__law_bad_part, b__law_bad_part, g__law_bad_part⟩ := (by
      refine' Ev.def_mk (x := "_law_bad_part") (st := Ev.s__law_bad_part) (ps := ["_law_prime", "_law_many", "_law_pieces"]) KX G (fun _ _ _ _ _ _ us hl => match us, hl with | [_, _, _], _ => rfl) ?a ?l ?c ?k
      (case a => k_is); (case l => k_is); (case c => k_is); (case k => k_is) : ∃ f fd, L2.Fun _ "_law_bad_part" "_law_bad_part" Ev.s__law_bad_part f fd ∧ L2.Binds _ fd ["_law_prime", "_law_many", "_law_pieces"] [] ∧ mg "_law_bad_part" = some (.ref f))
    obtain ⟨f__law_due, fd__law_due, F__law_due, b__law_due, g__law_due⟩ := (by
      refine' Ev.def_mk (x := "_law_due") (st := Ev.s__law_due) (ps := ["_law_text_here"]) KX G (fun _ _ _ _ _ _ us hl => match us, hl with | [_], _ => rfl) ?a ?l ?c ?k
      (case a => k_is); (case l => k_is); (case c => k_is); (case k => k_is) : ∃ f fd, L2.Fun _ "_law_due" "_law_due" Ev.s__law_due f fd ∧ L2.Binds _ fd ["_law_text_here"] [] ∧ mg "_law_due" = some (.ref f))
    obtain ⟨f__law_told, fd__law_told, F__law_told, b__law_told, g__law_told⟩ := (by
      refine' Ev.def_mk (x := "_law_told") (st := Ev.s__law_told) (ps := ["_law_text_here"]) KX G (fun _ _ _ _ _ _ us hl => match us, hl with | [_], _ => rfl) ?a ?l ?c ?k
      (case a => k_is); (case l => k_is); (case c => k_is); (case k => k_is) : ∃ f fd, L2.Fun _ "_law_told" "_law_told" Ev.s__law_told f fd ∧ L2.Binds _ fd ["_law_text_here"] [] ∧ mg "_law_told" = some (.ref f))
    obtain ⟨f__law_is_same, fd__law_is_same, F__law_is_same, b__law_is_same, g__law_is_same⟩ := (by
      refine' Ev.def_mk (x := "_law_is_same") (st := Ev.s__law_is_same) (ps := ["_law_told_here", "_law_due_here"]) KX G (fun _ _ _ _ _ _ us hl => match us, hl with | [_, _], _ => rfl) ?a ?l ?c ?k
      (case a => k_is); (case l => k_is); (case c => k_is); (case k => k_is) : ∃ f fd, L2.Fun _ "_law_is_same" "_law_is_same" Ev.s__law_is_same f fd ∧ L2.Binds _ fd ["_law_told_here", "_law_due_here"] [] ∧ mg "_law_is_same" = some (.ref f))
    obtain ⟨f__law_spoilt, fd__law_spoilt, F__law_spoilt, b__law_spoilt, g__law_spoilt⟩ := (by
      refine' Ev.def_mk (x := "_law_spoilt") (st := Ev.s__law_spoilt) (ps := ["_law_bag_here", "_law_text_here"]) KX G (fun _ _ _ _ _ _ us hl => match us, hl with | [_, _], _ => rfl) ?a ?l ?c ?k
      (case a => k_is); (case l => k_is); (case c => k_is); (case k => k_is) : ∃ f fd, L2.Fun _ "_law_spoilt" "_law_spoilt" Ev.s__law_spoilt f fd ∧ L2.Binds _ fd ["_law_bag_here", "_law_text_here"] [] ∧ mg "_law_spoilt" = some (.ref f))
    obtain ⟨f_law, fd_law, F_law, b_law, g_law⟩ := (by
      refine' Ev.def_mk (x := "law") (st := Ev.s_law) (ps := ["_law_script"]) KX G (fun _ _ _ _ _ _ us hl => match us, hl with | [_], _ => rfl) ?a ?l ?c ?k
      (case a => k_is); (case l => k_is); (case c => k_is); (case k => k_is) : ∃ f fd, L2.Fun _ "law" "law" Ev.s_law f fd ∧ L2.Binds _ fd ["_law_script"] [] ∧ mg "law" = some (.ref f))
    obtain ⟨C_Web, f_Web___init__, f_Web___eq__, fd_Web___init__, fd_Web___eq__, OF_Web⟩ := (by
      refine' Ev.own_Web KX G ?a ?pg ?hd ?po ?sa ?n_many ?n_pieces ?n_prime ?e___init__ ?l___init__ ?c___init__ ?p___init__ ?i___init__ ?e___eq__ ?l___eq__ ?c___eq__ ?p___eq__ ?i___eq__ ?mk ?kc ?ob ?ne ?ic1 ?ic2 ?ic3 ?ic4 ?ic5 ?ic6
      (case a => k_is)
      (case pg => k_is)
      (case hd => k_is)
      (case po => k_is)
      (case sa => k_is)
      (case n_many => k_is)
      (case n_pieces => k_is)
      (case n_prime => k_is)
      (case e___init__ => k_is)
      (case l___init__ => k_is)
      (case c___init__ => k_is)
      (case p___init__ => k_is)
      (case i___init__ => k_is)
      (case e___eq__ => k_is)
      (case l___eq__ => k_is)
      (case c___eq__ => k_is)
      (case p___eq__ => k_is)
      (case i___eq__ => k_is)
      (case mk => k_is)
      (case kc => k_is)
      (case ob => k_is)
      (case ne => k_is)
      (case ic1 => k_is)
      (case ic2 => k_is)
      (case ic3 => k_is)
      (case ic4 => first | rfl | k_is)
      (case ic5 => k_is)
      (case ic6 => first | rfl | k_is) : ∃ (C_Web f_Web___init__ f_Web___eq__ : Addr) (fd_Web___init__ fd_Web___eq__ : FuncData), Ev.OwnF_Web _ mg C_Web f_Web___init__ f_Web___eq__ fd_Web___init__ fd_Web___eq__)
    obtain ⟨C_KeepError, C_BadWeb, C_BadText, fI_BadText, fI_BadWeb, q_BadText, q_BadWeb, CF⟩ := (by
      refine' Ev.cls_all (q_BadText := ⟨_, _, _, _, _, _, _, _, _, _⟩) (q_BadWeb := ⟨_, _, _, _, _, _, _, _, _, _⟩) KX G ?a_KeepError ?a_BadWeb ?a_BadText ?i_BadText ?t_BadText ?b_BadText ?x1BadText_hev ?x1BadText_gs ?x1BadText_cls1 ?x1BadText_cls2 ?x1BadText_sa ?x1BadText_ga ?x1BadText_gg ?x1BadText_noN ?x1BadText_iC ?x1BadText_tC ?x1BadText_kC ?x1BadText_hdC ?x1BadText_hB ?x1BadText_hm ?x1BadText_hs ?x1BadText_ho ?x1BadText_fn1 ?x1BadText_fn2 ?x1BadText_fn3 ?x1BadText_fn4 ?x1BadText_fn5 ?x1BadText_fn6 ?x1BadText_top ?i_BadWeb ?t_BadWeb ?b_BadWeb ?x1BadWeb_hev ?x1BadWeb_gs ?x1BadWeb_cls1 ?x1BadWeb_cls2 ?x1BadWeb_sa ?x1BadWeb_ga ?x1BadWeb_gg ?x1BadWeb_noN ?x1BadWeb_iC ?x1BadWeb_tC ?x1BadWeb_kC ?x1BadWeb_hdC ?x1BadWeb_hB ?x1BadWeb_hm ?x1BadWeb_hs ?x1BadWeb_ho ?x1BadWeb_fn1 ?x1BadWeb_fn2 ?x1BadWeb_fn3 ?x1BadWeb_fn4 ?x1BadWeb_fn5 ?x1BadWeb_fn6 ?x1BadWeb_top ?ec0_BadText ?ec1_BadText ?ec2_BadText ?ec3_BadText ?ec4_BadText ?ec5_BadText ?ec6_BadText ?ec7_BadText ?i_KeepError ?t_KeepError ?b_KeepError ?s_BadText_KeepError ?ec0_BadWeb ?ec1_BadWeb ?ec2_BadWeb ?ec3_BadWeb ?ec4_BadWeb ?ec5_BadWeb ?ec6_BadWeb ?ec7_BadWeb ?s_BadWeb_KeepError ?s_BadText_BadText ?s_BadWeb_BadText ?s_BadWeb_BadWeb
      (case a_KeepError => k_is)
      (case a_BadWeb => k_is)
      (case a_BadText => k_is)
      (case i_BadText => first | rfl | k_is)
      (case t_BadText => k_is)
      (case b_BadText => k_is)
      (case x1BadText_gs => k_is)
      (case x1BadText_cls1 => k_is)
      (case x1BadText_cls2 => rfl)
      (case x1BadText_sa => k_is)
      (case x1BadText_ga => k_is)
      (case x1BadText_gg => k_is)
      (case x1BadText_noN => k_is)
      (case x1BadText_iC => k_is)
      (case x1BadText_tC => k_is)
      (case x1BadText_kC => k_is)
      (case x1BadText_hdC => k_is)
      (case x1BadText_hB => k_is)
      (case x1BadText_hm => first | rfl | kernel_rfl | decide +kernel)
      (case x1BadText_hs => first | rfl | k_is)
      (case x1BadText_ho => k_is)
      (case x1BadText_fn1 => rfl)
      (case x1BadText_fn2 => k_is)
      (case x1BadText_fn3 => k_is)
      (case x1BadText_fn4 => k_is)
      (case x1BadText_fn5 => rfl)
      (case x1BadText_fn6 => rfl)
      (case x1BadText_top => first | rfl | decide)
      (case i_BadWeb => first | rfl | k_is)
      (case t_BadWeb => k_is)
      (case b_BadWeb => k_is)
      (case x1BadWeb_gs => k_is)
      (case x1BadWeb_cls1 => k_is)
      (case x1BadWeb_cls2 => rfl)
      (case x1BadWeb_sa => k_is)
      (case x1BadWeb_ga => k_is)
      (case x1BadWeb_gg => k_is)
      (case x1BadWeb_noN => k_is)
      (case x1BadWeb_iC => k_is)
      (case x1BadWeb_tC => k_is)
      (case x1BadWeb_kC => k_is)
      (case x1BadWeb_hdC => k_is)
      (case x1BadWeb_hB => k_is)
      (case x1BadWeb_hm => first | rfl | kernel_rfl | decide +kernel)
      (case x1BadWeb_hs => first | rfl | k_is)
      (case x1BadWeb_ho => k_is)
      (case x1BadWeb_fn1 => rfl)
      (case x1BadWeb_fn2 => k_is)
      (case x1BadWeb_fn3 => k_is)
      (case x1BadWeb_fn4 => k_is)
      (case x1BadWeb_fn5 => rfl)
      (case x1BadWeb_fn6 => rfl)
      (case x1BadWeb_top => first | rfl | decide)
      (case ec0_BadText => k_is)
      (case ec1_BadText => k_is)
      (case ec2_BadText => k_is)
      (case ec3_BadText => k_is)
      (case ec4_BadText => k_is)
      (case ec5_BadText => k_is)
      (case ec6_BadText => k_is)
      (case ec7_BadText => k_is)
      (case i_KeepError => first | rfl | k_is)
      (case t_KeepError => k_is)
      (case b_KeepError => k_is)
      (case s_BadText_KeepError => first | rfl | k_is)
      (case ec0_BadWeb => k_is)
      (case ec1_BadWeb => k_is)
      (case ec2_BadWeb => k_is)
      (case ec3_BadWeb => k_is)
      (case ec4_BadWeb => k_is)
      (case ec5_BadWeb => k_is)
      (case ec6_BadWeb => k_is)
      (case ec7_BadWeb => k_is)
      (case s_BadWeb_KeepError => first | rfl | k_is)
      (case s_BadText_BadText => first | rfl | k_is)
      (case s_BadWeb_BadText => first | rfl | k_is)
      (case s_BadWeb_BadWeb => first | rfl | k_is)
      (case x1BadText_hev => exact ⟨_, fun _ => rfl⟩)
      (case x1BadWeb_hev => exact ⟨_, fun _ => rfl⟩) : ∃ (C_KeepError C_BadWeb C_BadText fI_BadText fI_BadWeb : Addr) (q_BadText : PySem.FldX_line.Ps) (q_BadWeb : PySem.FldX_part.Ps), Ev.ClsF PySem.Challenge.rw_lightfirst_k73_whole_webs_as_texts.prog _ mg C_KeepError C_BadWeb C_BadText fI_BadText fI_BadWeb q_BadText q_BadWeb)
    have z_abs : mg "abs" = none := PySem.W.mg_none_of KX G (by k_is)
    have z_all : mg "all" = none := PySem.W.mg_none_of KX G (by k_is)
    have z_any : mg "any" = none := PySem.W.mg_none_of KX G (by k_is)
    have z_bool : mg "bool" = none := PySem.W.mg_none_of KX G (by k_is)
    have z_enumerate : mg "enumerate" = none := PySem.W.mg_none_of KX G (by k_is)
    have z_int : mg "int" = none := PySem.W.mg_none_of KX G (by k_is)
    have z_isinstance : mg "isinstance" = none := PySem.W.mg_none_of KX G (by k_is)
    have z_len : mg "len" = none := PySem.W.mg_none_of KX G (by k_is)
    have z_max : mg "max" = none := PySem.W.mg_none_of KX G (by k_is)
    have z_range : mg "range" = none := PySem.W.mg_none_of KX G (by k_is)
    have z_str : mg "str" = none := PySem.W.mg_none_of KX G (by k_is)
    have z_tuple : mg "tuple" = none := PySem.W.mg_none_of KX G (by k_is)
    have c_FIGURES : ∃ t, mg "FIGURES" = some (.str "0123456789" t) := by
      refine' Ev.kstr_mk KX G ?a
      (case a => k_is)
    have c_LEAST_PRIME : ∃ t, mg "LEAST_PRIME" = some (.int 2 t) := by
      refine' Ev.kint_mk KX G ?a
      (case a => k_is)
    have c_MOST_FIGURES : ∃ t, mg "MOST_FIGURES" = some (.int 9 t) := by
      refine' Ev.kint_mk KX G ?a
      (case a => k_is)
    have c_MOST_MANY : ∃ t, mg "MOST_MANY" = some (.int 10 t) := by
      refine' Ev.kint_mk KX G ?a
      (case a => k_is)
    have c_MOST_PIECES : ∃ t, mg "MOST_PIECES" = some (.int 40 t) := by
      refine' Ev.kint_mk KX G ?a
      (case a => k_is)
    have c_MOST_PRIME : ∃ t, mg "MOST_PRIME" = some (.int 251 t) := by
      refine' Ev.kint_mk KX G ?a
      (case a => k_is)
    have c_MOST_SIZE : ∃ t, mg "MOST_SIZE" = some (.int 1000000 t) := by
      refine' Ev.kint_mk KX G ?a
      (case a => k_is)
    have c_MOST_WIDTH : ∃ t, mg "MOST_WIDTH" = some (.int 10 t) := by
      refine' Ev.kint_mk KX G ?a
      (case a => k_is)
    have T : Ev.Top PySem.Challenge.rw_lightfirst_k73_whole_webs_as_texts.prog _ mg { f_is_integer := f_is_integer, fd_is_integer := fd_is_integer, f_is_within := f_is_within, fd_is_within := fd_is_within, f_is_pair := f_is_pair, fd_is_pair := fd_is_pair, f_is_prime := f_is_prime, fd_is_prime := fd_is_prime, f_is_sum := f_is_sum, fd_is_sum := fd_is_sum, f_is_piece := f_is_piece, fd_is_piece := fd_is_piece, f_number_in := f_number_in, fd_number_in := fd_number_in, f_numbers_in := f_numbers_in, fd_numbers_in := fd_numbers_in, f_web_text := f_web_text, fd_web_text := fd_web_text, f_numbers_behind := f_numbers_behind, fd_numbers_behind := fd_numbers_behind, f_lines_in := f_lines_in, fd_lines_in := fd_lines_in, f_read_web := f_read_web, fd_read_web := fd_read_web, f__law_mixed := f__law_mixed, fd__law_mixed := fd__law_mixed, f__law_bag := f__law_bag, fd__law_bag := fd__law_bag, f__law_draw := f__law_draw, fd__law_draw := fd__law_draw, f__law_primes := f__law_primes, fd__law_primes := fd__law_primes, f__law_drawn := f__law_drawn, fd__law_drawn := fd__law_drawn, f__law_text := f__law_text, fd__law_text := fd__law_text, f__law_number := f__law_number, fd__law_number := fd__law_number, f__law_line := f__law_line, fd__law_line := fd__law_line, f__law_bad_part := f__law_bad_part, fd__law_bad_part := fd__law_bad_part, f__law_due := f__law_due, fd__law_due := fd__law_due, f__law_told := f__law_told, fd__law_told := fd__law_told, f__law_is_same := f__law_is_same, fd__law_is_same := fd__law_is_same, f__law_spoilt := f__law_spoilt, fd__law_spoilt := fd__law_spoilt, f_law := f_law, fd_law := fd_law, C_KeepError := C_KeepError, C_BadWeb := C_BadWeb, C_BadText := C_BadText, fI_BadText := fI_BadText, fI_BadWeb := fI_BadWeb, q_BadText := q_BadText, q_BadWeb := q_BadWeb, C_Web := C_Web, f_Web___init__ := f_Web___init__, f_Web___eq__ := f_Web___eq__, fd_Web___init__ := fd_Web___init__, fd_Web___eq__ := fd_Web___eq__ } := { F_is_integer := F_is_integer, b_is_integer := b_is_integer, g_is_integer := g_is_integer, F_is_within := F_is_within, b_is_within := b_is_within, g_is_within := g_is_within, F_is_pair := F_is_pair, b_is_pair := b_is_pair, g_is_pair := g_is_pair, F_is_prime := F_is_prime, b_is_prime := b_is_prime, g_is_prime := g_is_prime, F_is_sum := F_is_sum, b_is_sum := b_is_sum, g_is_sum := g_is_sum, F_is_piece := F_is_piece, b_is_piece := b_is_piece, g_is_piece := g_is_piece, F_number_in := F_number_in, b_number_in := b_number_in, g_number_in := g_number_in, F_numbers_in := F_numbers_in, b_numbers_in := b_numbers_in, g_numbers_in := g_numbers_in, F_web_text := F_web_text, b_web_text := b_web_text, g_web_text := g_web_text, F_numbers_behind := F_numbers_behind, b_numbers_behind := b_numbers_behind, g_numbers_behind := g_numbers_behind, F_lines_in := F_lines_in, b_lines_in := b_lines_in, g_lines_in := g_lines_in, F_read_web := F_read_web, b_read_web := b_read_web, g_read_web := g_read_web, F__law_mixed := F__law_mixed, b__law_mixed := b__law_mixed, g__law_mixed := g__law_mixed, F__law_bag := F__law_bag, b__law_bag := b__law_bag, g__law_bag := g__law_bag, F__law_draw := F__law_draw, b__law_draw := b__law_draw, g__law_draw := g__law_draw, F__law_primes := F__law_primes, b__law_primes := b__law_primes, g__law_primes := g__law_primes, F__law_drawn := F__law_drawn, b__law_drawn := b__law_drawn, g__law_drawn := g__law_drawn, F__law_text := F__law_text, b__law_text := b__law_text, g__law_text := g__law_text, F__law_number := F__law_number, b__law_number := b__law_number, g__law_number := g__law_number, F__law_line := F__law_line, b__law_line := b__law_line, g__law_line := g__law_line, F__law_bad_part := F__law_bad_part, b__law_bad_part := b__law_bad_part, g__law_bad_part := g__law_bad_part, F__law_due := F__law_due, b__law_due := b__law_due, g__law_due := g__law_due, F__law_told := F__law_told, b__law_told := b__law_told, g__law_told := g__law_told, F__law_is_same := F__law_is_same, b__law_is_same := b__law_is_same, g__law_is_same := g__law_is_same, F__law_spoilt := F__law_spoilt, b__law_spoilt := b__law_spoilt, g__law_spoilt := g__law_spoilt, F_law := F_law, b_law := b_law, g_law := g_law, z_abs := z_abs, z_all := z_all, z_any := z_any, z_bool := z_bool, z_enumerate := z_enumerate, z_int := z_int, z_isinstance := z_isinstance, z_len := z_len, z_max := z_max, z_range := z_range, z_str := z_str, z_tuple := z_tuple, c_FIGURES := c_FIGURES, c_LEAST_PRIME := c_LEAST_PRIME, c_MOST_FIGURES := c_MOST_FIGURES, c_MOST_MANY := c_MOST_MANY, c_MOST_PIECES := c_MOST_PIECES, c_MOST_PRIME := c_MOST_PRIME, c_MOST_SIZE := c_MOST_SIZE, c_MOST_WIDTH := c_MOST_WIDTH, k_KeepError := CF.k_KeepError, k_BadWeb := CF.k_BadWeb, k_BadText := CF.k_BadText, x1_BadText := CF.x1_BadText, x1_BadWeb := CF.x1_BadWeb, ec_BadText := CF.ec_BadText, ki_BadText_KeepError := CF.ki_BadText_KeepError, xf_BadText := CF.xf_BadText, xn_BadText_line := CF.xn_BadText_line, ec_BadWeb := CF.ec_BadWeb, ki_BadWeb_KeepError := CF.ki_BadWeb_KeepError, xf_BadWeb := CF.xf_BadWeb, xn_BadWeb_part := CF.xn_BadWeb_part, em_BadText_BadText := CF.em_BadText_BadText, em_BadWeb_BadText := CF.em_BadWeb_BadText, em_BadWeb_BadWeb := CF.em_BadWeb_BadWeb, k_Web := OF_Web.k_Web, cl_Web := OF_Web.cl_Web, no_Web_many := OF_Web.no_Web_many, no_Web_pieces := OF_Web.no_Web_pieces, no_Web_prime := OF_Web.no_Web_prime, F_Web___init__ := OF_Web.F_Web___init__, b_Web___init__ := OF_Web.b_Web___init__, M_Web___init__ := OF_Web.M_Web___init__, F_Web___eq__ := OF_Web.F_Web___eq__, b_Web___eq__ := OF_Web.b_Web___eq__, M_Web___eq__ := OF_Web.M_Web___eq__, mk_Web := OF_Web.mk_Web, ne_Web := OF_Web.ne_Web, is_Web := OF_Web.is_Web }
    have efa := hmg.symm.trans g_law
    cases efa
    obtain ⟨oc_, od_, kV_, dc_, pm_, an_, cd_, ct_, sl_, efd, lk_, hcg_⟩ := F_law.ex
    have fdb : ∀ (s : Shared) (u : Value), BindsTo s fd_law ⟨[u], []⟩ [("_law_script", u)] := fun s u => by rw [efd]; exact .of_eq rfl
    exact Ev.lawAt0 fdb (fun ns hl => Ev.law_true ns hl) fun base _ _ => Ev.ok_all T
